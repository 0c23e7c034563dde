import PyProof.Rows.All
import Wide.All
import OpenK.AllK
import Wide.FinOn
import HandS.ForMost
import HandS.Exc
import HandS.TryOnly
import HandS.ExcOwn
import HandS.WordsExc
import HandS.Evl
import HandS.Steps
import HandS.More
import HandS.IsInst
import HandS.Codes
import HandS.Conv
import HandS.Walk
import HandS.Zip
import HandS.Replace
import KE.KSortedM
import KE.KDictOf
import HandS.TupAny
import KE.RegKIsAll
import PySem.Challenge.RW_retryhall_k20_whole_alone_by_rows
set_option Elab.async false
set_option linter.all false
set_option maxRecDepth 100000
set_option maxHeartbeats 2000000
namespace RT
open PySem L2
abbrev Ex := Evl.Ex
structure Ad where
  K : PySem.W.Frag
  cPart : Addr := 0
  cLet : Addr := 0
  cReckon : Addr := 0
  cTake : Addr := 0
  cPut : Addr := 0
  cIf : Addr := 0
  cEither : Addr := 0
  cTry : Addr := 0
  cThrow : Addr := 0
  cWait : Addr := 0
  cLog : Addr := 0
  cDoer : Addr := 0
  cHand : Addr := 0
  cHall : Addr := 0
  cDesk : Addr := 0
  cHallError : Addr := 0
  cNoDeed : Addr := 0
  cNoBoxes : Addr := 0
  cNoHands : Addr := 0
  cNoHand : Addr := 0
  cNoRow : Addr := 0
  aSUMS : Addr := 0
def spLaw (K : PySem.W.Frag) : Sp := fun vs H Q _ => ∃ (a : Addr) (ns : List Int), vs = [.ref a] ∧ SqL K H a (ns.map V.int) ∧ ns.length ≤ 63 ∧ ∀ H', Q (.bl true) H'
@[irreducible] def dB (p : Prop) [Decidable p] : Bool := decide p
theorem dB_eq (p : Prop) [Decidable p] : dB p = decide p := by unfold dB; rfl
theorem dB_t {p : Prop} [Decidable p] (h : p) : dB p = true := by rw [dB_eq]; exact decide_eq_true h
theorem dB_f {p : Prop} [Decidable p] (h : ¬ p) : dB p = false := by rw [dB_eq]; exact decide_eq_false h
theorem nB_t {p : Prop} [Decidable p] (h : ¬ p) : (!dB p) = true := by rw [dB_f h]; rfl
theorem nB_f {p : Prop} [Decidable p] (h : p) : (!dB p) = false := by rw [dB_t h]; rfl
abbrev aAdd := tOp (rI0 fun i j => V.int (i + j))
abbrev aSub := tOp (rI0 fun i j => V.int (i - j))
abbrev aMul := tOp (rI CMul fun i j => V.int (i * j))
abbrev aMod := tOp (rI (fun _ j => 0 < j) fun i j => V.int (i % j))
abbrev aDiv := tOp (rI CDiv fun i j => V.int (i / j))
abbrev aPow := tOp (rI CPow fun i j => V.int (i ^ j.toNat))
abbrev aNeg := tUn (rU fun i => V.int (-i))
def rAddS : R2 := fun x y H Q => ∃ i j, x = .str i ∧ y = .str j ∧ i.length + j.length ≤ sizeLine ∧ Q (.str (i ++ j)) H
abbrev aAddS := tOp rAddS
abbrev aCat := tOp rCat
abbrev aCatT (K : PySem.W.Frag) := tOp (rCatT K)
abbrev aRep := tOp rRep
def rLt : R2 := rI0 fun i j => V.bl (dB (i < j))
def rLe : R2 := rI0 fun i j => V.bl (dB (i ≤ j))
def rGt : R2 := rI0 fun i j => V.bl (dB (j < i))
def rGe : R2 := rI0 fun i j => V.bl (dB (j ≤ i))
def rLtS : R2 := fun x y H Q => ∃ i j, x = .str i ∧ y = .str j ∧ Q (.bl (dB (i.cps.toList < j.cps.toList))) H
def rLeS : R2 := fun x y H Q => ∃ i j, x = .str i ∧ y = .str j ∧ Q (.bl (!dB (j.cps.toList < i.cps.toList))) H
def rGtS : R2 := fun x y H Q => ∃ i j, x = .str i ∧ y = .str j ∧ Q (.bl (dB (j.cps.toList < i.cps.toList))) H
def rGeS : R2 := fun x y H Q => ∃ i j, x = .str i ∧ y = .str j ∧ Q (.bl (!dB (i.cps.toList < j.cps.toList))) H
def rLenStr : List V → Hp → VK → Prop := fun xs H Q => ∃ x, xs = [.str x] ∧ x.length ≤ sizeLine ∧ Q (.int (x.length : Nat)) H
def rLenD : List V → Hp → VK → Prop := fun xs H Q => ∃ a kvs, xs = [V.ref a] ∧ H a = some (.dK kvs) ∧ Q (.int kvs.length) H
def rIntS : List V → Hp → VK → Prop := fun xs H Q => ∃ a n, xs = [.str a] ∧ PySem.intText? a = some n ∧ a.length ≤ 640 ∧ Q (.int n) H
def rInt1 : List V → Hp → VK → Prop := fun xs H Q => (∃ i, xs = [.int i] ∧ Q (.int i) H) ∨ ∃ k, xs = [.bl k] ∧ Q (.int (if k then 1 else 0)) H
def rStrI : List V → Hp → VK → Prop := fun xs H Q => ∃ i, xs = [.int i] ∧ i.natAbs.log2 < 1920 ∧ Q (.str (toString i)) H
def rMin2 : List V → Hp → VK → Prop := fun xs H Q => ∃ i j, xs = [.int i, .int j] ∧ Q (.int (if j < i then j else i)) H
def rListOf (K : PySem.W.Frag) : List V → Hp → VK → Prop := fun xs H Q => ∃ p ys, xs = [.ref p] ∧ (SqL K H p ys ∨ SqT K H p ys) ∧ ∀ l, H l = none → Q (.ref l) (upd H l (.lst ys))
def rTupleOf (K : PySem.W.Frag) : List V → Hp → VK → Prop := fun xs H Q => ∃ p ys, xs = [.ref p] ∧ ((SqL K H p ys ∧ ∀ l, H l = none → Q (.ref l) (upd H l (.tup ys))) ∨ (SqT K H p ys ∧ Q (.ref p) H))
def rSortedD : List V → Hp → VK → Prop := fun xs H Q => ∃ (a : Addr) (kvs : List (Key × V)) (ks : List Int), xs = [.ref a] ∧ Rd H a (.dK kvs) ∧ kvs.map (·.1) = ks.map Sum.inl ∧ ks.length < 64 ∧
    ∀ (ys : List Int) (p : Addr), ys.Perm ks → ys.Pairwise (· ≤ ·) → H p = none → Q (.ref p) (upd H p (.lst (ys.map V.int)))
def rJoin (K : PySem.W.Frag) : V → List V → Hp → VK → Prop := (fun x xs H Q => ∃ a p, ∃ ys : List Str, x = .str a ∧ xs = [.ref p] ∧ (SqL K H p (ys.map V.str) ∨ SqT K H p (ys.map V.str)) ∧ (ys.map (·.length)).sum + ys.length * a.length ≤ 16777216 ∧ Q (.str (Txt.join a ys)) H)
abbrev aJoin (K : PySem.W.Frag) := tM1 (rJoin K)
def rSplit : V → List V → Hp → VK → Prop := (fun x xs H Q => ∃ a b, x = .str a ∧ xs = [.str b] ∧ (b.length == 0) = false ∧ a.length + 2 ≤ sizeLine ∧ rNewStrs (Txt.split a b) H Q)
abbrev aSplit := tM1 rSplit
def rIndexS : V → List V → Hp → VK → Prop := (fun x xs H Q => ∃ a b i rest, x = .str a ∧ xs = [.str b] ∧ Builtin.Str.occurrences a b 0 a.length 1 = i :: rest ∧ Q (.int (i : Nat)) H)
abbrev aIndexS := tM1 rIndexS
def rFindS : V → List V → Hp → VK → Prop := (fun x xs H Q => ∃ a b, x = .str a ∧ xs = [.str b] ∧ Q (.int (Txt.find a b)) H)
abbrev aFind := tM1 rFindS
section
variable {X : Cx}
theorem o_lt : OpR X (compareOp .Lt) rLt := by unfold rLt; simp only [dB_eq]; exact op_lt
theorem o_le : OpR X (compareOp .LtE) rLe := by unfold rLe; simp only [dB_eq]; exact op_le
theorem o_gt : OpR X (compareOp .Gt) rGt := by unfold rGt; simp only [dB_eq]; exact op_gt
end
theorem kit_int_int : kitB "int" "int" = some true := by decide +kernel
theorem kit_int_bool : kitB "int" "bool" = some false := by decide +kernel
theorem kit_int_str : kitB "int" "str" = some false := by decide +kernel
theorem kit_int_list : kitB "int" "list" = some false := by decide +kernel
theorem kit_int_tuple : kitB "int" "tuple" = some false := by decide +kernel
theorem kit_int_dict : kitB "int" "dict" = some false := by decide +kernel
theorem kit_bool_int : kitB "bool" "int" = some true := by decide +kernel
theorem kit_bool_bool : kitB "bool" "bool" = some true := by decide +kernel
theorem kit_bool_str : kitB "bool" "str" = some false := by decide +kernel
theorem kit_bool_list : kitB "bool" "list" = some false := by decide +kernel
theorem kit_bool_tuple : kitB "bool" "tuple" = some false := by decide +kernel
theorem kit_bool_dict : kitB "bool" "dict" = some false := by decide +kernel
theorem kit_str_int : kitB "str" "int" = some false := by decide +kernel
theorem kit_str_bool : kitB "str" "bool" = some false := by decide +kernel
theorem kit_str_str : kitB "str" "str" = some true := by decide +kernel
theorem kit_str_list : kitB "str" "list" = some false := by decide +kernel
theorem kit_str_tuple : kitB "str" "tuple" = some false := by decide +kernel
theorem kit_str_dict : kitB "str" "dict" = some false := by decide +kernel
theorem kit_NoneType_int : kitB "NoneType" "int" = some false := by decide +kernel
theorem kit_NoneType_bool : kitB "NoneType" "bool" = some false := by decide +kernel
theorem kit_NoneType_str : kitB "NoneType" "str" = some false := by decide +kernel
theorem kit_NoneType_list : kitB "NoneType" "list" = some false := by decide +kernel
theorem kit_NoneType_tuple : kitB "NoneType" "tuple" = some false := by decide +kernel
theorem kit_NoneType_dict : kitB "NoneType" "dict" = some false := by decide +kernel
theorem kit_list_int : kitB "list" "int" = some false := by decide +kernel
theorem kit_list_bool : kitB "list" "bool" = some false := by decide +kernel
theorem kit_list_str : kitB "list" "str" = some false := by decide +kernel
theorem kit_list_list : kitB "list" "list" = some true := by decide +kernel
theorem kit_list_tuple : kitB "list" "tuple" = some false := by decide +kernel
theorem kit_list_dict : kitB "list" "dict" = some false := by decide +kernel
theorem kit_tuple_int : kitB "tuple" "int" = some false := by decide +kernel
theorem kit_tuple_bool : kitB "tuple" "bool" = some false := by decide +kernel
theorem kit_tuple_str : kitB "tuple" "str" = some false := by decide +kernel
theorem kit_tuple_list : kitB "tuple" "list" = some false := by decide +kernel
theorem kit_tuple_tuple : kitB "tuple" "tuple" = some true := by decide +kernel
theorem kit_tuple_dict : kitB "tuple" "dict" = some false := by decide +kernel
theorem kit_dict_int : kitB "dict" "int" = some false := by decide +kernel
theorem kit_dict_bool : kitB "dict" "bool" = some false := by decide +kernel
theorem kit_dict_str : kitB "dict" "str" = some false := by decide +kernel
theorem kit_dict_list : kitB "dict" "list" = some false := by decide +kernel
theorem kit_dict_tuple : kitB "dict" "tuple" = some false := by decide +kernel
theorem kit_dict_dict : kitB "dict" "dict" = some true := by decide +kernel
section
variable {K : PySem.W.Frag} {σ σ' : L2.St} {H H' : Hp} {ta tb te tx : TE} {x y z v : V} {r : R2} {Q : VK} {D : Ends} {t u c : TT} {ts tu tw : TS} {g : TG} {i j : Nat}
theorem w_var (h : σ[i]? = some (some v)) (q : Q v H) : tVar i σ H Q := ⟨v, h, q⟩
theorem w_c (q : Q v H) : tC v σ H Q := q
theorem w_op (q : ta σ H fun x H1 => tb σ H1 fun y H2 => r x y H2 Q) : tOp r ta tb σ H Q := q
theorem w_un {r : V → Hp → VK → Prop} (q : ta σ H fun x H1 => r x H1 Q) : tUn r ta σ H Q := q
theorem w_i0 {f : Int → Int → V} {a b : Int} (q : Q (f a b) H) : rI0 f (.int a) (.int b) H Q := ⟨a, b, rfl, rfl, q⟩
theorem w_i {C : Int → Int → Prop} {f : Int → Int → V} {a b : Int} (hc : C a b) (q : Q (f a b) H) : rI C f (.int a) (.int b) H Q := ⟨a, b, rfl, rfl, hc, q⟩
theorem w_u {f : Int → V} {a : Int} (q : Q (f a) H) : rU f (.int a) H Q := ⟨a, rfl, q⟩
theorem w_eqI {a b : Int} (q : Q (.bl (dB (a = b))) H) : rEq (.int a) (.int b) H Q := ⟨rfl, by simpa [dB_eq] using q⟩
theorem w_neI {a b : Int} (q : Q (.bl (!dB (a = b))) H) : rNe (.int a) (.int b) H Q := ⟨rfl, by simpa [dB_eq] using q⟩
theorem w_eqS {a b : Str} (q : Q (.bl (dB (a = b))) H) : rEq (.str a) (.str b) H Q := ⟨rfl, by simpa [dB_eq] using q⟩
theorem w_neS {a b : Str} (q : Q (.bl (!dB (a = b))) H) : rNe (.str a) (.str b) H Q := ⟨rfl, by simpa [dB_eq] using q⟩
theorem w_isNN (q : Q (.bl true) H) : rIsN .non .non H Q := ⟨rfl, q⟩
theorem w_isNI {a : Int} (q : Q (.bl false) H) : rIsN (.int a) .non H Q := ⟨rfl, q⟩
theorem w_isNS {a : Str} (q : Q (.bl false) H) : rIsN (.str a) .non H Q := ⟨rfl, q⟩
theorem w_isNR {a : Addr} (q : Q (.bl false) H) : rIsN (.ref a) .non H Q := ⟨rfl, q⟩
theorem w_notNN (q : Q (.bl false) H) : rNotN .non .non H Q := ⟨rfl, q⟩
theorem w_notNI {a : Int} (q : Q (.bl true) H) : rNotN (.int a) .non H Q := ⟨rfl, q⟩
theorem w_notNS {a : Str} (q : Q (.bl true) H) : rNotN (.str a) .non H Q := ⟨rfl, q⟩
theorem w_notNR {a : Addr} (q : Q (.bl true) H) : rNotN (.ref a) .non H Q := ⟨rfl, q⟩

theorem w_lt {a b : Int} (q : Q (.bl (dB (a < b))) H) : rLt (.int a) (.int b) H Q := ⟨a, b, rfl, rfl, q⟩
theorem w_le {a b : Int} (q : Q (.bl (dB (a ≤ b))) H) : rLe (.int a) (.int b) H Q := ⟨a, b, rfl, rfl, q⟩
theorem w_gt {a b : Int} (q : Q (.bl (dB (b < a))) H) : rGt (.int a) (.int b) H Q := ⟨a, b, rfl, rfl, q⟩
theorem w_ge {a b : Int} (q : Q (.bl (dB (b ≤ a))) H) : rGe (.int a) (.int b) H Q := ⟨a, b, rfl, rfl, q⟩
theorem w_ltS {a b : Str} (q : Q (.bl (dB (a.cps.toList < b.cps.toList))) H) : rLtS (.str a) (.str b) H Q := ⟨a, b, rfl, rfl, q⟩
theorem w_leS {a b : Str} (q : Q (.bl (!dB (b.cps.toList < a.cps.toList))) H) : rLeS (.str a) (.str b) H Q := ⟨a, b, rfl, rfl, q⟩
theorem w_gtS {a b : Str} (q : Q (.bl (dB (b.cps.toList < a.cps.toList))) H) : rGtS (.str a) (.str b) H Q := ⟨a, b, rfl, rfl, q⟩
theorem w_geS {a b : Str} (q : Q (.bl (!dB (a.cps.toList < b.cps.toList))) H) : rGeS (.str a) (.str b) H Q := ⟨a, b, rfl, rfl, q⟩
theorem w_addS {a b : Str} (h : a.length + b.length ≤ sizeLine) (q : Q (.str (a ++ b)) H) : rAddS (.str a) (.str b) H Q := ⟨a, b, rfl, rfl, h, q⟩
theorem w_inS {c : Nat} {w : Str} (q : Q (.bl (dB (c ∈ w.cps.toList))) H) : rInS (.str ⟨#[c]⟩) (.str w) H Q := ⟨c, w, rfl, rfl, by rw [← dB_eq]; exact q⟩
theorem w_ninS {c : Nat} {w : Str} (q : Q (.bl (!dB (c ∈ w.cps.toList))) H) : rNotInS (.str ⟨#[c]⟩) (.str w) H Q := ⟨c, w, rfl, rfl, by rw [← dB_eq]; exact q⟩
theorem w_test {Q : Bool → Hp → Prop} (q : te σ H fun x H' => ∃ k, x = .bl k ∧ Q k H') : tTest te σ H Q := q
theorem w_tB {Q : Bool → Hp → Prop} (q : te σ H fun x H' => ∃ k, x = .bl k ∧ Q k H') : tB te σ H Q := q
theorem w_tru {Q : Bool → Hp → Prop} (q : te σ H fun x H' => ∃ k, TruV K x H' k ∧ Q k H') : tTru K te σ H Q := q
theorem w_bl {P : Bool → Prop} {b : Bool} (q : P b) : ∃ k, V.bl b = .bl k ∧ P k := ⟨b, rfl, q⟩
theorem w_int {P : Int → Prop} {b : Int} (q : P b) : ∃ k, V.int b = .int k ∧ P k := ⟨b, rfl, q⟩
theorem w_ref {P : Addr → Prop} {b : Addr} (q : P b) : ∃ k, V.ref b = .ref k ∧ P k := ⟨b, rfl, q⟩
theorem w_str {P : Str → Prop} {b : Str} (q : P b) : ∃ k, V.str b = .str k ∧ P k := ⟨b, rfl, q⟩
theorem w_and {Q : Bool → Hp → Prop} (q : t σ H fun c H1 => if c = true then u σ H1 Q else Q false H1) : tAnd t u σ H Q := q
theorem w_or {Q : Bool → Hp → Prop} (q : t σ H fun c H1 => if c = true then Q true H1 else u σ H1 Q) : tOr t u σ H Q := q
theorem w_not {Q : Bool → Hp → Prop} (q : t σ H fun c H1 => Q (!c) H1) : tNot t σ H Q := q
theorem w_andV (q : ta σ H fun x H1 => ∃ c, x = .bl c ∧ if c = true then tb σ H1 Q else Q (.bl false) H1) : tAndV ta tb σ H Q := q
theorem w_orV (q : ta σ H fun x H1 => ∃ c, x = .bl c ∧ if c = true then Q (.bl true) H1 else tb σ H1 Q) : tOrV ta tb σ H Q := q
theorem w_notV (q : ta σ H fun x H1 => ∃ c, x = .bl c ∧ Q (.bl (!c)) H1) : tNotV ta σ H Q := q
theorem w_ifE (q : t σ H fun c H1 => if c = true then ta σ H1 Q else tb σ H1 Q) : tIf t ta tb σ H Q := q
theorem w_chain {r r' : R2} {tc : TE} (q : ta σ H fun x H1 => tb σ H1 fun y H2 => r x y H2 fun z H3 => ∃ k, z = .bl k ∧ (if k = true then tc σ H3 fun w' H4 => r' y w' H4 Q else Q (.bl false) H3)) : tChain r r' ta tb tc σ H Q := q
theorem w_dec {p A B : Prop} [Decidable p] (h1 : p → A) (h2 : ¬ p → B) : if dB p = true then A else B := by
  by_cases h : p
  · rw [if_pos (dB_t h)]; exact h1 h
  · rw [if_neg (by rw [dB_f h]; exact Bool.false_ne_true)]; exact h2 h
theorem w_ndec {p A B : Prop} [Decidable p] (h1 : ¬ p → A) (h2 : p → B) : if (!dB p) = true then A else B := by
  by_cases h : p
  · rw [if_neg (by rw [dB_t h]; exact Bool.false_ne_true)]; exact h2 h
  · rw [if_pos (by rw [dB_f h]; rfl)]; exact h1 h
theorem w_bool {b : Bool} {A B : Prop} (h1 : b = true → A) (h2 : b = false → B) : if b = true then A else B := by
  cases b with
  | true => exact h1 rfl
  | false => exact h2 rfl
theorem w_tt {b : Bool} {A B : Prop} (e : b = true) (h : A) : if b = true then A else B := by rw [if_pos e]; exact h
theorem w_ff {b : Bool} {A B : Prop} (e : b = false) (h : B) : if b = true then A else B := by rw [if_neg (by rw [e]; exact Bool.false_ne_true)]; exact h
theorem w_ttL {A B : Prop} (h : A) : if true = true then A else B := iteT h
theorem w_ffL {A B : Prop} (h : B) : if false = true then A else B := iteF h
theorem w_seq (q : ts { D with nx := tu D } σ H) : tSeq ts tu D σ H := q
theorem w_next (q : D.nx σ H) : tNext D σ H := q
theorem w_brk (q : D.bk σ H) : tBreak D σ H := q
theorem w_cont (q : D.ct σ H) : tCont D σ H := q
theorem w_asg (q : te σ H fun x H1 => g x σ H1 D.nx) : tAsg te g D σ H := q
theorem w_gn {Q : L2.St → Hp → Prop} (e : σ.set i (some v) = σ') (q : Q σ' H) : gName i v σ H Q := by subst e; exact q
theorem w_drop (q : te σ H fun _ H1 => D.nx σ H1) : tDrop te D σ H := q
theorem w_ret (q : te σ H D.rt) : tRet te D σ H := q
theorem w_retN (q : D.rt .non H) : tRetN D σ H := q
theorem w_ifS (q : c σ H fun b H1 => if b = true then ts D σ H1 else tu D σ H1) : tIfS c ts tu D σ H := q
theorem w_aug {ti : TIp} (h : σ[i]? = some (some x)) (q : te σ H fun y H1 => ti x y H1 fun z H2 => D.nx (σ.set i (some z)) H2) : tAug i te ti D σ H := ⟨x, h, q⟩
theorem w_ip {f : Int → Int → Int} {a b : Int} (q : Q (.int (f a b)) H) : ipI f (.int a) (.int b) H Q := ⟨a, b, rfl, rfl, q⟩
theorem w_par {ta : TA} (q : ta σ H fun vs H1 => ∃ v w, vs = [v, w] ∧ D.nx ((σ.set i (some v)).set j (some w)) H1) : tPar i j ta D σ H := q
theorem w_v2 {P : V → V → Prop} (q : P x y) : ∃ v w, [x, y] = [v, w] ∧ P v w := ⟨x, y, rfl, q⟩
theorem w_nil {Q : List V → Hp → Prop} (q : Q [] H) : tNil σ H Q := q
theorem w_cons {tr : TA} {Q : List V → Hp → Prop} (q : ta σ H fun x H1 => tr σ H1 fun xs H2 => Q (x :: xs) H2) : tCons ta tr σ H Q := q
theorem w_call {sp : Sp} {E : XK} {t : TA} (q : t σ H fun vs H1 => sp vs H1 Q E) : tCall sp [] E t σ H Q := by
  unfold tCall
  simp only [List.append_nil]
  exact q
theorem w_cb {r : List V → Hp → VK → Prop} {t : TA} (q : t σ H fun vs H1 => r vs H1 Q) : tCB r t σ H Q := q
def rMeth (C : Addr) (m : Str) (sp : Sp) (E : XK) (t : TA) (σ : L2.St) (x : V) (H : Hp) (Q : VK) : Prop := ∃ a dx fs, x = .ref a ∧ H a = some (.ins C dx fs) ∧ fs.lookup m = none ∧ t σ H fun vs H2 => sp (x :: vs) H2 Q E
theorem w_meth {C : Addr} {m : Str} {sp : Sp} {E : XK} {t : TA} (q : ta σ H fun x H1 => rMeth C m sp E t σ x H1 Q) : tMeth C m sp [] E ta t σ H Q := by
  unfold tMeth
  simp only [List.append_nil]
  exact q
theorem w_meth1 {C p dx : Addr} {m : Str} {sp : Sp} {E : XK} {t : TA} {fs : List (Str × V)} (h : H p = some (.ins C dx fs)) (l : fs.lookup m = none) (q : t σ H fun vs H2 => sp (.ref p :: vs) H2 Q E) : rMeth C m sp E t σ (.ref p) H Q := ⟨p, dx, fs, rfl, h, l, q⟩
theorem w_make {C : Addr} {sp : Sp} {E : XK} {t : TA} (q : t σ H fun vs H1 => ∀ x dx, H1 x = none → H1 dx = none → dx ≠ x → sp (.ref x :: vs) (upd (upd H1 dx (.own x)) x (.ins C dx [])) (fun v H2 => v = .non ∧ Q (.ref x) H2) E) : tMake C sp [] E t σ H Q := by
  unfold tMake
  simp only [List.append_nil]
  exact q
theorem w_int1 {a : Int} (q : Q (.int a) H) : rInt1 [.int a] H Q := .inl ⟨a, rfl, q⟩
theorem w_int1b {k : Bool} (q : Q (.int (if k then 1 else 0)) H) : rInt1 [.bl k] H Q := .inr ⟨k, rfl, q⟩
theorem w_lenStr {x : Str} (h : x.length ≤ sizeLine) (q : Q (.int (x.length : Nat)) H) : rLenStr [.str x] H Q := ⟨x, rfl, h, q⟩
theorem w_lenS {p : Addr} {xs : List V} (h : SqL K H p xs) (q : Q (.int xs.length) H) : Evl.rLenS K [.ref p] H Q := ⟨p, xs, rfl, .inl h, q⟩
theorem w_lenT {p : Addr} {xs : List V} (h : SqT K H p xs) (q : Q (.int xs.length) H) : Evl.rLenS K [.ref p] H Q := ⟨p, xs, rfl, .inr h, q⟩
theorem w_max2 {a b : Int} (q : Q (.int (if b > a then b else a)) H) : Evl.rMax2 [.int a, .int b] H Q := ⟨a, b, rfl, q⟩
theorem w_min2 {a b : Int} (q : Q (.int (if b < a then b else a)) H) : rMin2 [.int a, .int b] H Q := ⟨a, b, rfl, q⟩
theorem w_isi {c : V} {t u : Value} {b : Bool} (k : ClsV c u) (ty : TyX K H x t) (e : PySem.W.kitOne K t u = some b) (q : Q (.bl b) H) : rIsi K [x, c] H Q := ⟨x, c, t, u, b, rfl, k, ty, e, q⟩
theorem w_isiI {n : String} {b : Bool} {a : Int} (e : kitB "int" n = some b) (q : Q (.bl b) H) : rIsi K [.int a, .ty n] H Q := w_isi (.ty n) (.base (.int a)) (kit_ty e) q
theorem w_isiB {n : String} {b : Bool} {a : Bool} (e : kitB "bool" n = some b) (q : Q (.bl b) H) : rIsi K [.bl a, .ty n] H Q := w_isi (.ty n) (.base (.bl a)) (kit_ty e) q
theorem w_isiN {n : String} {b : Bool} (e : kitB "NoneType" n = some b) (q : Q (.bl b) H) : rIsi K [.non, .ty n] H Q := w_isi (.ty n) (.base .non) (kit_ty e) q
theorem w_isiS {n : String} {b : Bool} {a : Str} (e : kitB "str" n = some b) (q : Q (.bl b) H) : rIsi K [.str a, .ty n] H Q := w_isi (.ty n) (.base (.str a)) (kit_ty e) q
theorem w_tup {t : TA} (q : t σ H fun xs H1 => xs.length ≤ sizeLine ∧ ∀ p, H1 p = none → Q (.ref p) (upd H1 p (.tup xs))) : tTup t σ H Q := q
theorem w_lst {t : TA} (q : t σ H fun xs H1 => xs.length ≤ sizeLine ∧ ∀ p, H1 p = none → Q (.ref p) (upd H1 p (.lst xs))) : tLst t σ H Q := q
theorem w_sz {n : Nat} {B : Prop} (h : n ≤ sizeLine) (q : B) : n ≤ sizeLine ∧ B := ⟨h, q⟩
theorem w_dnew (q : ∀ p, H p = none → Q (.ref p) (upd H p (.dK []))) : tDNewK σ H Q := q
theorem ex_at {a : Addr} {o : HO} (e : Ex H H') (h : H a = some o) : H' a = some o := e a o h
theorem ex_sq {a : Addr} {xs : List V} (e : Ex H H') (h : SqL K H a xs) : SqL K H' a xs := Evl.ex_l e h
theorem ex_st {a : Addr} {xs : List V} (e : Ex H H') (h : SqT K H a xs) : SqT K H' a xs := Evl.ex_t e h
theorem new_ex {p : Addr} {o : HO} (h : H p = none) (e : upd H p o = H') : Ex H H' := e ▸ Evl.Ex.new h
theorem new_at {p : Addr} {o : HO} (e : upd H p o = H') : H' p = some o := e ▸ upd_same
theorem ex_free {a : Addr} (e : Ex H H') (h : H' a = none) : H a = none := Evl.fresh_back e h
theorem w_ixL {p : Addr} {xs : List V} {i : Int} (h : SqL K H p xs) (a : atI xs i = some v) (q : Q v H) : rIxL K (.ref p) (.int i) H Q := ⟨p, xs, i, v, rfl, rfl, h, a, q⟩
theorem w_ixT {p : Addr} {xs : List V} {i : Int} (h : SqT K H p xs) (a : atI xs i = some v) (q : Q v H) : rIxT K (.ref p) (.int i) H Q := ⟨p, xs, i, v, rfl, rfl, h, a, q⟩
theorem w_ixS {z : Str} {i : Int} {c : Nat} (h : z.length ≤ sizeLine) (a : atI z.cps.toList i = some c) (q : Q (.str ⟨#[c]⟩) H) : rIxS (.str z) (.int i) H Q := ⟨z, i, c, rfl, rfl, h, a, q⟩
theorem w_sl {r : V → Option Int → Option Int → Hp → VK → Prop} {tl th : TO} (q : te σ H fun x H1 => tl σ H1 fun l H2 => th σ H2 fun u H3 => r x l u H3 Q) : tSl r te tl th σ H Q := q
theorem w_noPart {Q : Option Int → Hp → Prop} (q : Q none H) : tNoPart σ H Q := q
theorem w_part {Q : Option Int → Hp → Prop} (q : te σ H fun x H1 => ∃ i, x = .int i ∧ Q (some i) H1) : tPart te σ H Q := q
theorem w_slL {p : Addr} {xs : List V} {lo hi : Option Int} (h : SqL K H p xs) (q : ∀ l, H l = none → Q (.ref l) (upd H l (.lst (cutV xs lo hi)))) : rSlL K (.ref p) lo hi H Q := ⟨p, xs, rfl, h, q⟩
theorem w_slS {z : Str} {lo hi : Option Int} (h : z.length ≤ sizeLine) (q : Q (.str (cutS z lo hi)) H) : rSlS (.str z) lo hi H Q := ⟨z, rfl, h, q⟩
theorem w_cat {l b : Addr} {xs zs : List V} (h1 : H l = some (.lst xs)) (h2 : H b = some (.lst zs)) (hl : xs.length + zs.length ≤ sizeLine) (q : ∀ p, H p = none → Q (.ref p) (upd H p (.lst (xs ++ zs)))) : rCat (.ref l) (.ref b) H Q := ⟨l, b, xs, zs, rfl, rfl, h1, h2, hl, q⟩
theorem w_for {wi : TI} (q : wi σ H fun J H1 => ∃ W : Nat → Nat → L2.St → Hp → Prop, (∃ m, W 0 m σ H1) ∧ ∀ i m σ H, W i m σ H →
  (J.stop i H ∧ D.nx σ H) ∨ (J.go i H ∧ ∃ N : L2.St → Hp → Prop, (∀ σ' H', N σ' H' → ∃ m', m' < m ∧ W (i + 1) m' σ' H') ∧ ∀ x H', J.yld i H x H' → g x σ H' fun σ2 H2 => ts { D with nx := N, ct := N, bk := D.nx } σ2 H2)) : tFor wi g ts D σ H := q
theorem w_iList {R : It → Hp → Prop} (q : te σ H fun x H1 => ∃ a, x = .ref a ∧ (∃ xs, SqL K H1 a xs) ∧ R (Itl K a) H1) : iList K te σ H R := q
theorem w_iTup {R : It → Hp → Prop} (q : te σ H fun x H1 => ∃ a, x = .ref a ∧ (∃ xs, SqT K H1 a xs) ∧ R (Itt K a) H1) : iTup K te σ H R := q
theorem w_iStr {R : It → Hp → Prop} (q : te σ H fun v H1 => ∃ x, v = .str x ∧ R (Its x) H1) : iStr te σ H R := q
theorem w_iRng1 {ta : TA} {R : It → Hp → Prop} (q : ta σ H fun vs H1 => ∃ j : Int, vs = [.int j] ∧ -(2 ^ 62) ≤ j ∧ j < 2 ^ 62 ∧ R (Itr 0 j.toNat) H1) : iRng1 ta σ H R := q
theorem w_iRng2 {ta : TA} {R : It → Hp → Prop} (q : ta σ H fun vs H1 => ∃ i j : Int, vs = [.int i, .int j] ∧ (-(2 ^ 62) ≤ i ∧ i < 2 ^ 62 ∧ -(2 ^ 62) ≤ j ∧ j < 2 ^ 62) ∧ R (Itr i (j - i).toNat) H1) : iRng2 ta σ H R := q
theorem w_v1I {P : Int → Prop} {n : Int} (q : P n) : ∃ j, [V.int n] = [.int j] ∧ P j := ⟨n, rfl, q⟩
theorem w_v2I {P : Int → Int → Prop} {n m : Int} (q : P n m) : ∃ i j, [V.int n, .int m] = [.int i, .int j] ∧ P i j := ⟨n, m, rfl, q⟩
theorem sIx_nat (n d k : Nat) : HT.sIx n d (some (k : Int)) = min k n := by
  unfold HT.sIx
  simp
  omega
mutual
theorem dp_mono (e : Ex H H') : ∀ (d : PyData) (v : V), Dp K H v d → Dp K H' v d
  | .none, _, h => by cases h; exact .non
  | .bool b, _, h => by cases h; exact .bl b
  | .int i, _, h => by cases h; exact .int i
  | .str x, _, h => by cases h; exact .str x
  | .list ds, _, h => by
    cases h with
    | lst hs ha => exact .lst (ex_sq e hs) (dpAll_mono e ds _ ha)
  | .tuple ds, _, h => by
    cases h with
    | tup hs ha => exact .tup (ex_st e hs) (dpAll_mono e ds _ ha)
  | .dict _, _, h => by cases h
theorem dpAll_mono (e : Ex H H') : ∀ (ds : List PyData) (vs : List V), DpAll K H vs ds → DpAll K H' vs ds
  | [], _, h => by cases h; exact .nil
  | d :: ds, _, h => by
    cases h with
    | cons h1 h2 => exact .cons (dp_mono e d _ h1) (dpAll_mono e ds _ h2)
end
theorem w_lc {wi : TI} {vs : List Nat} (q : wi σ H fun J H1 => ∀ D, H1 D = none → ∃ W : Nat → Nat → Hp → Prop, (∃ m, W 0 m (upd H1 D (.lst []))) ∧ ∀ i m H, W i m H →
  (J.stop i H ∧ Q (.ref D) H) ∨ (J.go i H ∧ ∃ Nx : Hp → Prop, (∀ H', Nx H' → ∃ m', m' < m ∧ W (i + 1) m' H') ∧ ∀ x H', J.yld i H x H' → g x (wipe σ vs) H' fun σ2 H2 => wipe σ2 vs = wipe σ vs ∧ t σ2 H2 fun b H3 =>
    if b = true then te σ2 H3 fun y H4 => ∃ acc, H4 D = some (.lst acc) ∧ acc.length < sizeLine ∧ Nx (upd H4 D (.lst (acc ++ [y]))) else Nx H3)) : tLc wi g t te vs σ H Q := q
theorem str_len_app (a b : Str) : (a ++ b).length = a.length + b.length := Array.size_append
theorem sign_len (c : Nat) : (⟨#[c]⟩ : Str).length = 1 := rfl
def rMulS : R2 := fun x y H Q => ∃ i n, x = .str i ∧ y = .int n ∧ 0 ≤ n ∧ n ≤ 1000 ∧ i.length ≤ 1000 ∧ ∀ z : Str, z.length ≤ i.length * n.toNat → Q (.str z) H
abbrev aMulS := tOp rMulS
theorem w_m1 {r : V → List V → Hp → VK → Prop} (q : ta σ H fun x H1 => (∃ a, x = .str a) ∧ te σ H1 fun y H2 => r x [y] H2 Q) : tM1 r ta te σ H Q := q
theorem w_isS {a : Str} {B : Prop} (q : B) : (∃ b, V.str a = .str b) ∧ B := ⟨⟨a, rfl⟩, q⟩
def rFld (K : PySem.W.Frag) (f : Str) (x : V) (H : Hp) (Q : VK) : Prop := ∃ a C dx fs v, x = .ref a ∧ H a = some (.ins C dx fs) ∧ Cls K C ∧ NoAttr K C f ∧ fs.lookup f = some v ∧ Q v H
theorem w_tFld {f : Str} (q : ta σ H fun x H1 => rFld K f x H1 Q) : tFld K ta f σ H Q := q
theorem w_fld {f : Str} {p C dx : Addr} {fs : List (Str × V)} (h : H p = some (.ins C dx fs)) (c : Cls K C) (n : NoAttr K C f) (l : fs.lookup f = some v) (q : Q v H) : rFld K f (.ref p) H Q := ⟨p, C, dx, fs, v, rfl, h, c, n, l, q⟩
def rSFld (K : PySem.W.Frag) (f : Str) (y x : V) (H : Hp) (R : Hp → Prop) : Prop := ∃ a C dx fs, x = .ref a ∧ H a = some (.ins C dx fs) ∧ Cls K C ∧ NoAttr K C f ∧ fs.length < 1000 ∧ R (upd H a (.ins C dx (putF f y fs)))
theorem w_sFld {f : Str} {tv : TE} (q : tv σ H fun y H1 => ta σ H1 fun x H2 => rSFld K f y x H2 fun H3 => D.nx σ H3) : sFld K ta tv f D σ H := q
theorem w_rsFld {f : Str} {p C dx : Addr} {fs fs' : List (Str × V)} {R : Hp → Prop} (h : H p = some (.ins C dx fs)) (c : Cls K C) (n : NoAttr K C f) (l : fs.length < 1000) (e : putF f y fs = fs') (q : R (upd H p (.ins C dx fs'))) : rSFld K f y (.ref p) H R :=
  ⟨p, C, dx, fs, rfl, h, c, n, l, e ▸ q⟩
def rDGet (x y : V) (H : Hp) (Q : VK) : Prop := ∃ a v, x = .ref a ∧ DGet H a y (some v) ∧ Q v H
theorem w_tDGet {td ty : TE} (q : td σ H fun x H1 => ty σ H1 fun y H2 => rDGet x y H2 Q) : tDGet td ty σ H Q := q
def rDIn (y x : V) (H : Hp) (Q : VK) : Prop := ∃ a o, x = .ref a ∧ DGet H a y o ∧ Q (.bl o.isSome) H
theorem w_tDIn {td ty : TE} (q : ty σ H fun y H1 => td σ H1 fun x H2 => rDIn y x H2 Q) : tDIn ty td σ H Q := q
theorem w_dinI {p : Addr} {kvs : List (Key × V)} {k : Int} (h : H p = some (.dK kvs)) (q : Q (.bl (valV kvs (.inl k)).isSome) H) : rDIn (.int k) (.ref p) H Q := ⟨p, _, rfl, DGet.k (k := .inl k) h, q⟩
def rDNotIn (y x : V) (H : Hp) (Q : VK) : Prop := ∃ a o, x = .ref a ∧ DGet H a y o ∧ Q (.bl (!o.isSome)) H
theorem w_tDNotIn {td ty : TE} (q : ty σ H fun y H1 => td σ H1 fun x H2 => rDNotIn y x H2 Q) : tDNotIn ty td σ H Q := q
def rDPut (v x y : V) (H : Hp) (R : Hp → Prop) : Prop := ∃ a H4, x = .ref a ∧ DPut H a y v H4 ∧ R H4
theorem w_sDPut {td ty tv : TE} (q : tv σ H fun v H1 => td σ H1 fun x H2 => ty σ H2 fun y H3 => rDPut v x y H3 fun H4 => D.nx σ H4) : sDPut td ty tv D σ H := q
theorem w_bm {T : String} {r : V → List V → Hp → VK → Prop} {t : TA} (q : te σ H fun x H1 => tyV K T x H1 ∧ t σ H1 fun xs H2 => r x xs H2 Q) : tBM K T r te t σ H Q := q
theorem w_bm0 {T : String} {r : V → List V → Hp → VK → Prop} (q : te σ H fun x H1 => tyV K T x H1 ∧ r x [] H1 Q) : tBM0 K T r te σ H Q := q
theorem w_tyL {p : Addr} {xs : List V} {B : Prop} (h : SqL K H p xs) (q : B) : tyV K "list" (.ref p) H ∧ B := ⟨.inl ⟨rfl, xs, h⟩, q⟩
theorem w_app {l : Addr} {xs : List V} (h : H l = some (.lst xs)) (hl : xs.length < sizeLine) (q : Q .non (upd H l (.lst (xs ++ [y])))) : rAppend (.ref l) [y] H Q := ⟨l, xs, y, rfl, rfl, h, hl, q⟩
theorem w_pop {l : Addr} {xs : List V} (h : H l = some (.lst (xs ++ [y]))) (q : Q y (upd H l (.lst xs))) : rPop (.ref l) [] H Q := ⟨l, xs ++ [y], y, rfl, rfl, h, by simp, by rw [List.dropLast_concat]; exact q⟩
theorem w_ext {l b : Addr} {xs zs : List V} (h : H l = some (.lst xs)) (hb : H b = some (.lst zs)) (hl : xs.length + zs.length ≤ sizeLine) (q : Q .non (upd H l (.lst (xs ++ zs)))) : rExtend (.ref l) [.ref b] H Q := ⟨l, b, xs, zs, rfl, rfl, h, hb, hl, q⟩
theorem w_clr {l : Addr} {xs : List V} (h : H l = some (.lst xs)) (q : Q .non (upd H l (.lst []))) : rClear (.ref l) [] H Q := ⟨l, xs, rfl, rfl, h, q⟩
def rRev (K : PySem.W.Frag) (vs : List V) (H : Hp) (R : It → Hp → Prop) : Prop := ∃ (a : Addr) (xs : List V), vs = [.ref a] ∧ SqL K H a xs ∧ R (Itv K a xs.length) H
theorem w_iRev {ta : TA} {R : It → Hp → Prop} (q : ta σ H fun vs H1 => rRev K vs H1 R) : iRev K ta σ H R := q
theorem w_rev1 {p : Addr} {xs : List V} {R : It → Hp → Prop} (h : SqL K H p xs) (q : R (Itv K p xs.length) H) : rRev K [.ref p] H R := ⟨p, xs, rfl, h, q⟩
def rItems (x : V) (H : Hp) (R : It → Hp → Prop) : Prop := ∃ d o kvs, x = .ref d ∧ H d = some (.frz o (.dK kvs)) ∧ R (Iti d o kvs) H
theorem w_iItems {R : It → Hp → Prop} (q : te σ H fun x H1 => rItems x H1 R) : iItems te σ H R := q
def rKeys (x : V) (H : Hp) (R : It → Hp → Prop) : Prop := ∃ d o, x = .ref d ∧ ((∃ kvs, H d = some (.frz o (.dK kvs)) ∧ R (Itk d o kvs) H) ∨ ∃ kvs, H d = some (.frz o (.dT kvs)) ∧ R (Itkt d o kvs) H)
theorem w_iKeys {R : It → Hp → Prop} (q : te σ H fun x H1 => rKeys x H1 R) : iKeys te σ H R := q
def rRng3 (vs : List V) (H : Hp) (R : It → Hp → Prop) : Prop := ∃ (i j c : Int) (n : Nat), vs = [.int i, .int j, .int c] ∧ RgC i j c n ∧ R (Itc i c n) H
theorem w_iRng3 {ta : TA} {R : It → Hp → Prop} (q : ta σ H fun vs H1 => rRng3 vs H1 R) : iRng3 ta σ H R := q
def rZip (K : PySem.W.Frag) (vs : List V) (H : Hp) (R : It → Hp → Prop) : Prop := ∃ a b xs ys, vs = [.ref a, .ref b] ∧ SqL K H a xs ∧ SqL K H b ys ∧ R (Itz K a b) H
theorem w_iZip {ta : TA} {R : It → Hp → Prop} (q : ta σ H fun vs H1 => rZip K vs H1 R) : iZip K ta σ H R := q
theorem w_gCons {u : TGs} {x : V} {xs : List V} {Q : L2.St → Hp → Prop} (q : g x σ H fun σ' H' => u xs σ' H' Q) : gCons g u (x :: xs) σ H Q := ⟨x, xs, rfl, q⟩
theorem w_gNil {Q : L2.St → Hp → Prop} (q : Q σ H) : gNil [] σ H Q := ⟨rfl, q⟩
theorem w_gTup {n : Nat} {u : TGs} {p : Addr} {xs : List V} {Q : L2.St → Hp → Prop} (h : SqT K H p xs) (l : xs.length = n) (q : u xs σ H Q) : gTup K n u (.ref p) σ H Q := ⟨p, xs, rfl, h, l, q⟩
def del (H : Hp) (p : Addr) : Hp := fun a => if a = p then none else H a
theorem ne2 {a b : Addr} {o : HO} (h' : H b = none) (h : H a = some o) : a ≠ b := ne_of_none h h'
theorem ne2s {a b : Addr} {o : HO} (h' : H b = none) (h : H a = some o) : b ≠ a := Ne.symm (ne_of_none h h')
theorem up_ne {a b : Addr} {o u : HO} (h : b ≠ a) (h2 : H b = some u) : upd H a o b = some u := by rw [upd_ne h]; exact h2
theorem ne_head {a b : Addr} {l : List Addr} (h : a ∉ b :: l) : a ≠ b := fun e => h (e ▸ List.mem_cons_self)
theorem putF_nil {f : Str} : putF f v [] = [(f, v)] := rfl
theorem putF_hit {f : Str} {w : V} {r : List (Str × V)} : putF f v ((f, w) :: r) = (f, v) :: r := by
  show (if f = f then _ else _) = _
  rw [if_pos rfl]
theorem putF_miss {f k : Str} {w : V} {r r' : List (Str × V)} (h : ¬ k = f) (e : putF f v r = r') : putF f v ((k, w) :: r) = (k, w) :: r' := by
  show (if k = f then _ else (k, w) :: putF f v r) = _
  rw [if_neg h, e]
theorem ty_list {p : Addr} {xs : List V} (h : SqL K H p xs) : TyX K H (.ref p) (.type "list") := by
  rcases h with (h | ⟨o, h⟩) | ⟨o, its, n, hk, hc, _⟩
  · exact .base (.lst h)
  · exact .base (.frz h)
  · exact .kList hk hc
theorem ty_tup {p : Addr} {xs : List V} (h : SqT K H p xs) : TyX K H (.ref p) (.type "tuple") := by
  rcases h with (h | ⟨o, h⟩) | ⟨o, its, n, hk, hc, _⟩
  · exact .base (.tup h)
  · exact .fTuple h
  · exact .kTuple hk hc
theorem w_isiSL {n : String} {b : Bool} {p : Addr} {xs : List V} (h : SqL K H p xs) (e : kitB "list" n = some b) (q : Q (.bl b) H) : rIsi K [.ref p, .ty n] H Q := w_isi (.ty n) (ty_list h) (kit_ty e) q
theorem w_isiST {n : String} {b : Bool} {p : Addr} {xs : List V} (h : SqT K H p xs) (e : kitB "tuple" n = some b) (q : Q (.bl b) H) : rIsi K [.ref p, .ty n] H Q := w_isi (.ty n) (ty_tup h) (kit_ty e) q
theorem fnok_no {P : Program} {w : World} {mg : Str → Option Value} {base : Heap} {CX : CXT} {k : Nat} {f : Addr} {fd : FuncData} {ps : List Str} {sp : Sp} (h : ∀ vs H Q E, ¬ sp vs H Q E) : FnOk P w K mg base CX k f fd ps sp :=
  ⟨fun vs H Q E q => (h vs H Q E q).elim, fun _ _ _ H _ _ vs Q E _ _ _ _ q => (h vs H Q E q).elim⟩
end
end RT

set_option Elab.async false
set_option linter.all false
set_option maxRecDepth 100000
set_option maxHeartbeats 2000000
set_option autoImplicit false
namespace RT
open PySem L2
local macro_rules | `(tactic| walk_at "putf") => `(tactic| first | exact putF_nil | exact putF_hit | exact putF_miss (by decide) (by walk_at "putf"))
local macro_rules | `(tactic| walk_at "kit") => `(tactic| first | exact kit_int_int | exact kit_int_bool | exact kit_int_str | exact kit_int_list | exact kit_int_tuple | exact kit_int_dict | exact kit_bool_int | exact kit_bool_bool | exact kit_bool_str | exact kit_bool_list | exact kit_bool_tuple | exact kit_bool_dict | exact kit_str_int | exact kit_str_bool | exact kit_str_str | exact kit_str_list | exact kit_str_tuple | exact kit_str_dict | exact kit_NoneType_int | exact kit_NoneType_bool | exact kit_NoneType_str | exact kit_NoneType_list | exact kit_NoneType_tuple | exact kit_NoneType_dict | exact kit_list_int | exact kit_list_bool | exact kit_list_str | exact kit_list_list | exact kit_list_tuple | exact kit_list_dict | exact kit_tuple_int | exact kit_tuple_bool | exact kit_tuple_str | exact kit_tuple_list | exact kit_tuple_tuple | exact kit_tuple_dict | exact kit_dict_int | exact kit_dict_bool | exact kit_dict_str | exact kit_dict_list | exact kit_dict_tuple | exact kit_dict_dict)
local macro_rules | `(tactic| walk_at "small") => `(tactic| first | assumption | (rw [sizeLine_eq]; (try simp only [List.length_cons, List.length_nil, str_len_app, sign_len]); omega) | (with_unfolding_all decide))
local macro_rules | `(tactic| walk_at "dec") => `(tactic| (first | with_reducible apply w_dec | with_reducible apply w_ndec | with_reducible apply w_bool) <;> intro hc)
local macro_rules | `(tactic| walk_at "msm") => `(tactic| first | with_reducible assumption | (rw [sizeLine_eq]; (try simp only [List.length_cons, List.length_nil, List.length_append, List.length_map, List.length_set, str_len_app, sign_len]); omega))
section
open PySem L2
inductive D where
  | raw (v : V) | lst (ds : List D) | tup (ds : List D) | obj (C : Addr) (ns : List Str) (ds : List D) | scr (ns : List Int)
abbrev D.int (i : Int) : D := .raw (.int i)
abbrev D.str (s : Str) : D := .raw (.str s)
abbrev D.bl (b : Bool) : D := .raw (.bl b)
abbrev D.non : D := .raw .non
abbrev D.ptr (a : Addr) : D := .raw (.ref a)
inductive Cell where
  | lst (ds : List D) | dct (kvs : List (Key × D)) | ins (C : Addr) (fs : List (Str × D)) | lock (o : Obj) (u : HO) (kvs : List (Key × D))
  | abs (n : Nat) (X : List Addr → Addr → Option Cell)
abbrev Wd := Addr → Option Cell
abbrev Env := List (Option D)
mutual
inductive Rep (K : PySem.W.Frag) (S : Hp) : V → D → Prop
  | raw (v : V) : Rep K S v (.raw v)
  | lst {a : Addr} {xs : List V} {ds : List D} (h : S a = some (.lst xs)) (hs : Reps K S xs ds) : Rep K S (.ref a) (.lst ds)
  | tup {a : Addr} {xs : List V} {ds : List D} (h : SqT K S a xs) (hs : Reps K S xs ds) : Rep K S (.ref a) (.tup ds)
  | obj {a C dx : Addr} {ns : List Str} {xs : List V} {ds : List D} (h : S a = some (.ins C dx (ns.zip xs))) (hl : ns.length = xs.length) (hs : Reps K S xs ds) : Rep K S (.ref a) (.obj C ns ds)
  | scr {a : Addr} {ns : List Int} (h : SqL K S a (ns.map V.int)) : Rep K S (.ref a) (.scr ns)
inductive Reps (K : PySem.W.Frag) (S : Hp) : List V → List D → Prop
  | nil : Reps K S [] []
  | cons {v : V} {vs : List V} {d : D} {ds : List D} (h : Rep K S v d) (t : Reps K S vs ds) : Reps K S (v :: vs) (d :: ds)
end
section
variable {K : PySem.W.Frag}
mutual
theorem Rep.mono {S S' : Hp} (e : Ex S S') : ∀ {v : V} {d : D}, Rep K S v d → Rep K S' v d
  | _, _, .raw v => .raw v
  | _, _, .lst h hs => .lst (e _ _ h) (Reps.mono e hs)
  | _, _, .tup h hs => .tup (ex_st e h) (Reps.mono e hs)
  | _, _, .obj h hl hs => .obj (e _ _ h) hl (Reps.mono e hs)
  | _, _, .scr h => .scr (ex_sq e h)
theorem Reps.mono {S S' : Hp} (e : Ex S S') : ∀ {vs : List V} {ds : List D}, Reps K S vs ds → Reps K S' vs ds
  | _, _, .nil => .nil
  | _, _, .cons h t => .cons (Rep.mono e h) (Reps.mono e t)
end
variable {S S' : Hp}
theorem Reps.len {vs : List V} {ds : List D} (h : Reps K S vs ds) : vs.length = ds.length := by
  induction vs generalizing ds with
  | nil => cases h; rfl
  | cons v vs ih => cases h with | cons h t => simp [ih t]
theorem Reps.get : ∀ {vs : List V} {ds : List D} {i : Nat} {d : D}, Reps K S vs ds → ds[i]? = some d → ∃ v, vs[i]? = some v ∧ Rep K S v d
  | _, _, _, _, .nil, e => by simp at e
  | _, _, 0, _, .cons h _, e => by simp at e; subst e; exact ⟨_, rfl, h⟩
  | _, _, i + 1, d, .cons _ t, e => by
    obtain ⟨v, h1, h2⟩ := Reps.get (i := i) (d := d) t (by simpa using e)
    exact ⟨v, by simpa using h1, h2⟩
theorem Reps.get' {vs : List V} {ds : List D} {i : Nat} {v : V} (h : Reps K S vs ds) (e : vs[i]? = some v) : ∃ d, ds[i]? = some d ∧ Rep K S v d := by
  have hi := (List.getElem?_eq_some_iff.mp e).1
  rw [h.len] at hi
  obtain ⟨w, h1, h2⟩ := h.get (List.getElem?_eq_getElem hi)
  rw [e] at h1; cases h1
  exact ⟨_, List.getElem?_eq_getElem hi, h2⟩
theorem Reps.app {vs ws : List V} {ds es : List D} (h : Reps K S vs ds) (k : Reps K S ws es) : Reps K S (vs ++ ws) (ds ++ es) := by
  induction vs generalizing ds with
  | nil => cases h; exact k
  | cons v vs ih => cases h with | cons h t => exact .cons h (ih t)
theorem Reps.take {vs : List V} {ds : List D} (h : Reps K S vs ds) (n : Nat) : Reps K S (vs.take n) (ds.take n) := by
  induction n generalizing vs ds with
  | zero => simp; exact .nil
  | succ n ih => cases h with | nil => simp; exact .nil | cons h t => simp; exact .cons h (ih t)
theorem Reps.drop {vs : List V} {ds : List D} (h : Reps K S vs ds) (n : Nat) : Reps K S (vs.drop n) (ds.drop n) := by
  induction n generalizing vs ds with
  | zero => simpa using h
  | succ n ih => cases h with | nil => simp; exact .nil | cons h t => simpa using ih t
theorem Reps.set {vs : List V} {ds : List D} {v : V} {d : D} (h : Reps K S vs ds) (k : Rep K S v d) (n : Nat) : Reps K S (vs.set n v) (ds.set n d) := by
  induction n generalizing vs ds with
  | zero => cases h with | nil => simp; exact .nil | cons h t => simp; exact .cons k t
  | succ n ih => cases h with | nil => simp; exact .nil | cons h t => simp; exact .cons h (ih t)
theorem Reps.raws : ∀ vs : List V, Reps K S vs (vs.map D.raw)
  | [] => .nil
  | v :: vs => .cons (.raw v) (Reps.raws vs)
theorem Reps.rawsI {vs : List V} {ds : List D} {α : Type} {f : α → V} {l : List α} (h : Reps K S vs ds) (e : ds = l.map fun x => D.raw (f x)) : vs = l.map f := by
  subst e
  induction l generalizing vs with
  | nil => cases h; rfl
  | cons a l ih => cases h with | cons h t => cases h; rw [List.map_cons, ih t]
inductive RepP {κ : Type} (K : PySem.W.Frag) (S : Hp) : List (κ × V) → List (κ × D) → Prop
  | nil : RepP K S [] []
  | cons {k : κ} {v : V} {d : D} {r : List (κ × V)} {q : List (κ × D)} (h : Rep K S v d) (t : RepP K S r q) : RepP K S ((k, v) :: r) ((k, d) :: q)
section
variable {κ : Type} {r : List (κ × V)} {q : List (κ × D)}
theorem RepP.mono (e : Ex S S') (h : RepP K S r q) : RepP K S' r q := by
  induction h with
  | nil => exact .nil
  | cons h _ ih => exact .cons (h.mono e) ih
theorem RepP.len (h : RepP K S r q) : r.length = q.length := by
  induction h with
  | nil => rfl
  | cons h _ ih => simp [ih]
theorem RepP.look [BEq κ] (h : RepP K S r q) {k : κ} {d : D} (e : q.lookup k = some d) : ∃ v, r.lookup k = some v ∧ Rep K S v d := by
  induction h with
  | nil => cases e
  | cons h _ ih =>
    rename_i k' v d' r q _
    rw [List.lookup_cons] at e ⊢
    split at e
    · cases e; exact ⟨v, rfl, h⟩
    · exact ih e
theorem RepP.lookN [BEq κ] (h : RepP K S r q) {k : κ} (e : q.lookup k = none) : r.lookup k = none := by
  induction h with
  | nil => rfl
  | cons h _ ih =>
    rename_i k' v d' r q _
    rw [List.lookup_cons] at e ⊢
    split at e
    · cases e
    · exact ih e
end
inductive CellR (K : PySem.W.Frag) (S : Hp) : HO → Cell → Prop
  | lst {xs : List V} {ds : List D} (h : Reps K S xs ds) : CellR K S (.lst xs) (.lst ds)
  | dct {r : List (Key × V)} {q : List (Key × D)} (h : RepP K S r q) : CellR K S (.dK r) (.dct q)
  | ins {C dx : Addr} {r : List (Str × V)} {q : List (Str × D)} (h : RepP K S r q) : CellR K S (.ins C dx r) (.ins C q)
  | lock {o : Obj} {r : List (Key × V)} {q : List (Key × D)} (h : RepP K S r q) : CellR K S (.frz o (.dK r)) (.lock o (.dK r) q)
theorem CellR.mono (e : Ex S S') {o : HO} {c : Cell} : CellR K S o c → CellR K S' o c
  | .lst h => .lst (h.mono e)
  | .dct h => .dct (h.mono e)
  | .ins h => .ins (h.mono e)
  | .lock h => .lock (h.mono e)
def wset (W : Wd) (a : Addr) (c : Cell) : Wd := fun b => if b = a then some c else W b
def wer (W : Wd) (a : Addr) : Wd := fun b => if b = a then none else W b
section
variable {W W' : Wd} {a b : Addr} {c c' : Cell}
theorem ws_same : wset W a c a = some c := by unfold wset; rw [if_pos rfl]
theorem ws_ne (h : b ≠ a) : wset W a c b = W b := by unfold wset; rw [if_neg h]
theorem we_same : wer W a a = none := by unfold wer; rw [if_pos rfl]
theorem we_ne (h : b ≠ a) : wer W a b = W b := by unfold wer; rw [if_neg h]
theorem ws_ws : wset (wset W a c) a c' = wset W a c' := by
  funext b; unfold wset; split <;> rfl
theorem ws_comm (h : a ≠ b) : wset (wset W a c) b c' = wset (wset W b c') a c := by
  funext x; unfold wset
  by_cases h1 : x = a
  · subst h1; rw [if_neg h, if_pos rfl, if_pos rfl]
  · rw [if_neg h1, if_neg h1]
theorem we_ws (h : W a = none) : wer (wset W a c) a = W := by
  funext x; unfold wer wset
  by_cases h1 : x = a
  · subst h1; rw [if_pos rfl, h]
  · rw [if_neg h1, if_neg h1]
theorem ws_id (h : W a = some c) : wset W a c = W := by
  funext x; unfold wset
  by_cases h1 : x = a
  · subst h1; rw [if_pos rfl, h]
  · rw [if_neg h1]
theorem ne_w {a b : Addr} (h : W a = some c) (h' : W b = none) : a ≠ b := by
  intro e; subst e; rw [h] at h'; cases h'
def Sub (W W' : Wd) : Prop := ∀ a c, W a = some c → W' a = some c
theorem Sub.refl (W : Wd) : Sub W W := fun _ _ h => h
theorem Sub.trans {W1 W2 W3 : Wd} (a : Sub W1 W2) (b : Sub W2 W3) : Sub W1 W3 := fun x c h => b x c (a x c h)
theorem Sub.new (s : Sub W W') (h : W a = none) : Sub W (wset W' a c) := fun x d q => by rw [ws_ne (ne_w q h)]; exact s x d q
theorem Sub.er (s : Sub W W') (h : W a = none) : Sub W (wer W' a) := fun x d q => by rw [we_ne (ne_w q h)]; exact s x d q
theorem Sub.set (s : Sub W W') : Sub (wset W a c) (wset W' a c) := fun x d q => by
  by_cases h : x = a
  · subst h; rw [ws_same] at q ⊢; exact q
  · rw [ws_ne h] at q ⊢; exact s x d q
theorem Sub.wer : Sub (wer W a) W := fun x d q => by
  by_cases e : x = a
  · subst e; rw [we_same] at q; cases q
  · rw [we_ne e] at q; exact q
end
structure StaC (K : PySem.W.Frag) (B : Hp) (W : Wd) (H : Hp) : Prop where
  ex : Ex B H
  own : ∀ a c, W a = some c → B a = none ∧ ∃ o, H a = some o ∧ CellR K B o c
section
variable {B B' H H' : Hp} {W W' : Wd} {a p : Addr} {o : HO} {c c' : Cell}
theorem StaC.nnone (s : StaC K B W H) (h : H p = none) : W p = none := by
  cases e : W p with
  | none => rfl
  | some c => obtain ⟨_, o, h2, _⟩ := s.own p c e; rw [h] at h2; cases h2
theorem StaC.new (s : StaC K B W H) (h : H p = none) (r : CellR K B o c) : StaC K B (wset W p c) (upd H p o) := by
  refine ⟨s.ex.trans (Evl.Ex.new h), fun x d q => ?_⟩
  by_cases e : x = p
  · subst e; rw [ws_same] at q; cases q
    exact ⟨ex_free s.ex h, o, upd_same, r⟩
  · rw [ws_ne e] at q
    rw [upd_ne e]
    exact s.own x d q
theorem StaC.newB (s : StaC K B W H) (h : H p = none) : StaC K (upd B p o) W (upd H p o) ∧ Ex B (upd B p o) := by
  have hb := ex_free s.ex h
  have e : Ex B (upd B p o) := Evl.Ex.new hb
  refine ⟨⟨fun x u q => ?_, fun x d q => ?_⟩, e⟩
  · by_cases z : x = p
    · subst z; rw [upd_same] at q ⊢; exact q
    · rw [upd_ne z] at q ⊢; exact s.ex x u q
  · obtain ⟨h1, u, h2, h3⟩ := s.own x d q
    have z : x ≠ p := ne_of_none h2 h
    exact ⟨by rw [upd_ne z]; exact h1, u, by rw [upd_ne z]; exact h2, h3.mono e⟩
theorem StaC.set (s : StaC K B W H) (h : W a = some c') (r : CellR K B o c) : StaC K B (wset W a c) (upd H a o) := by
  obtain ⟨h1, _⟩ := s.own a c' h
  refine ⟨Evl.Ex.mut s.ex h1, fun x d q => ?_⟩
  by_cases e : x = a
  · subst e; rw [ws_same] at q; cases q
    exact ⟨h1, o, upd_same, r⟩
  · rw [ws_ne e] at q
    rw [upd_ne e]
    exact s.own x d q
theorem StaC.frz (s : StaC K B W H) (h : W a = some c) (h2 : H a = some o) : StaC K (upd B a o) (wer W a) H ∧ Ex B (upd B a o) := by
  obtain ⟨h1, _⟩ := s.own a c h
  have e : Ex B (upd B a o) := Evl.Ex.new h1
  refine ⟨⟨fun x u q => ?_, fun x d q => ?_⟩, e⟩
  · by_cases z : x = a
    · subst z; rw [upd_same] at q; rw [h2]; exact q
    · rw [upd_ne z] at q; exact s.ex x u q
  · by_cases z : x = a
    · subst z; rw [we_same] at q; cases q
    · rw [we_ne z] at q
      obtain ⟨g1, u, g2, g3⟩ := s.own x d q
      exact ⟨by rw [upd_ne z]; exact g1, u, g2, g3.mono e⟩
theorem StaC.sub (s : StaC K B W H) (h : Sub W' W) : StaC K B W' H := ⟨s.ex, fun x d q => s.own x d (h x d q)⟩
theorem StaC.lst (s : StaC K B W H) {ds : List D} (h : W a = some (.lst ds)) : ∃ xs, H a = some (.lst xs) ∧ Reps K B xs ds := by
  obtain ⟨_, o, h1, h2⟩ := s.own a _ h
  cases h2 with | lst h2 => exact ⟨_, h1, h2⟩
theorem StaC.dct (s : StaC K B W H) {q : List (Key × D)} (h : W a = some (.dct q)) : ∃ r, H a = some (.dK r) ∧ RepP K B r q := by
  obtain ⟨_, o, h1, h2⟩ := s.own a _ h
  cases h2 with | dct h2 => exact ⟨_, h1, h2⟩
theorem StaC.ins (s : StaC K B W H) {C : Addr} {q : List (Str × D)} (h : W a = some (.ins C q)) : ∃ dx r, H a = some (.ins C dx r) ∧ RepP K B r q := by
  obtain ⟨_, o, h1, h2⟩ := s.own a _ h
  cases h2 with | ins h2 => exact ⟨_, _, h1, h2⟩
end
def addW (W : Wd) (F : List Addr) (Y : Wd) : Wd := fun b => if b ∈ F then Y b else W b
inductive Exp : Wd → Wd → Prop
  | refl (W : Wd) : Exp W W
  | op {W W1 : Wd} {a : Addr} {n : Nat} {X : List Addr → Wd} (F : List Addr) (h : W a = some (.abs n X)) (hl : F.length = n) (hd : F.Nodup) (hh : F.head? = some a) (hf : ∀ b ∈ F, b ≠ a → W b = none) (hx : ∀ b, (X F b).isSome = true ↔ b ∈ F) (t : Exp (addW W F (X F)) W1) : Exp W W1
section
variable {W W' W1 Y Z : Wd} {F G : List Addr} {a b p : Addr} {c c' : Cell} {n : Nat} {X : List Addr → Wd}
theorem aw_in (h : b ∈ F) : addW W F Y b = Y b := by unfold addW; rw [if_pos h]
theorem aw_out (h : b ∉ F) : addW W F Y b = W b := by unfold addW; rw [if_neg h]
theorem head_mem (h : F.head? = some a) : a ∈ F := by
  cases F with
  | nil => cases h
  | cons x r => cases h; exact List.mem_cons_self
theorem Exp.dom (e : Exp W W1) (h : W1 p = none) : W p = none := by
  induction e with
  | refl => exact h
  | op F h0 hl hd hh hf hx t ih =>
    have k := ih h
    by_cases z : p ∈ F
    · rw [aw_in z] at k
      have := (hx p).mpr z
      rw [k] at this; cases this
    · rwa [aw_out z] at k
theorem Exp.get (e : Exp W W1) (h : W a = some c) (nc : ∀ n X, c ≠ .abs n X) : W1 a = some c := by
  induction e with
  | refl => exact h
  | op F h0 hl hd hh hf hx t ih =>
    rename_i W W1 a' n' X'
    refine ih ?_
    rw [aw_out]
    · exact h
    · intro z
      by_cases q : a = a'
      · subst q; rw [h] at h0; cases h0; exact nc _ _ rfl
      · rw [hf a z q] at h; cases h
theorem aw_ws (h : p ∉ F) : wset (addW W F Y) p c = addW (wset W p c) F Y := by
  funext x
  by_cases q : x = p
  · rw [q, ws_same, aw_out h, ws_same]
  · rw [ws_ne q]
    by_cases z : x ∈ F
    · rw [aw_in z, aw_in z]
    · rw [aw_out z, aw_out z, ws_ne q]
theorem aw_we (h : p ∉ F) : wer (addW W F Y) p = addW (wer W p) F Y := by
  funext x
  by_cases q : x = p
  · rw [q, we_same, aw_out h, we_same]
  · rw [we_ne q]
    by_cases z : x ∈ F
    · rw [aw_in z, aw_in z]
    · rw [aw_out z, aw_out z, we_ne q]
theorem aw_comm (h : ∀ b ∈ F, b ∉ G) : addW (addW W F Y) G Z = addW (addW W G Z) F Y := by
  funext x
  unfold addW
  by_cases q : x ∈ F
  · rw [if_neg (h x q), if_pos q, if_pos q]
  · rw [if_neg q, if_neg q]
theorem Exp.setN (e : Exp W W1) (h : W1 p = none) : Exp (wset W p c) (wset W1 p c) := by
  induction e with
  | refl => exact .refl _
  | op F h0 hl hd hh hf hx t ih =>
    have k := t.dom h
    have z : p ∉ F := fun z => by
      rw [aw_in z] at k
      have := (hx p).mpr z
      rw [k] at this; cases this
    have i := ih h
    rw [aw_ws z] at i
    have n1 : ∀ b ∈ F, b ≠ p := fun b hb q => z (q ▸ hb)
    exact .op F (by rw [ws_ne (n1 _ (head_mem hh))]; exact h0) hl hd hh (fun b hb hne => by rw [ws_ne (n1 b hb)]; exact hf b hb hne) hx i
theorem Exp.nin (h0 : W b = some (.abs n X)) (hf : ∀ x ∈ F, x ≠ b → W x = none) (h : W p = some c) (nc : ∀ n X, c ≠ .abs n X) : p ∉ F := fun z => by
  by_cases q : p = b
  · subst q; rw [h] at h0; cases h0; exact nc _ _ rfl
  · rw [hf p z q] at h; cases h
theorem Exp.setS (e : Exp W W1) (h : W p = some c') (nc : ∀ n X, c' ≠ .abs n X) : Exp (wset W p c) (wset W1 p c) := by
  induction e with
  | refl => exact .refl _
  | op F h0 hl hd hh hf hx t ih =>
    have z := Exp.nin h0 hf h nc
    have i := ih (by rw [aw_out z]; exact h)
    rw [aw_ws z] at i
    have n1 : ∀ b ∈ F, b ≠ p := fun b hb q => z (q ▸ hb)
    exact .op F (by rw [ws_ne (n1 _ (head_mem hh))]; exact h0) hl hd hh (fun b hb hne => by rw [ws_ne (n1 b hb)]; exact hf b hb hne) hx i
theorem Exp.erS (e : Exp W W1) (h : W p = some c') (nc : ∀ n X, c' ≠ .abs n X) : Exp (wer W p) (wer W1 p) := by
  induction e with
  | refl => exact .refl _
  | op F h0 hl hd hh hf hx t ih =>
    have z := Exp.nin h0 hf h nc
    have i := ih (by rw [aw_out z]; exact h)
    rw [aw_we z] at i
    have n1 : ∀ b ∈ F, b ≠ p := fun b hb q => z (q ▸ hb)
    exact .op F (by rw [we_ne (n1 _ (head_mem hh))]; exact h0) hl hd hh (fun b hb hne => by rw [we_ne (n1 b hb)]; exact hf b hb hne) hx i
theorem Exp.sub (e : Exp W W1) : ∀ {W'}, Sub W' W → ∃ W1', Exp W' W1' ∧ Sub W1' W1 := by
  induction e with
  | refl => exact fun h => ⟨_, .refl _, h⟩
  | op F h0 hl hd hh hf hx t ih =>
    rename_i W W1 a n X
    intro W' h
    have non : ∀ b ∈ F, b ≠ a → W' b = none := fun b hb hne => by
      cases q : W' b with
      | none => rfl
      | some c => have := h b c q; rw [hf b hb hne] at this; cases this
    cases q : W' a with
    | none =>
      refine ih fun x c hc => ?_
      have z : x ∉ F := fun z => by
        by_cases w : x = a
        · subst w; rw [q] at hc; cases hc
        · rw [non x z w] at hc; cases hc
      rw [aw_out z]; exact h x c hc
    | some c0 =>
      have e0 := h a c0 q
      rw [h0] at e0; cases e0
      obtain ⟨W2, e2, m2⟩ := ih (W' := addW W' F (X F)) fun x c hc => by
        by_cases z : x ∈ F
        · rw [aw_in z] at hc ⊢; exact hc
        · rw [aw_out z] at hc ⊢; exact h x c hc
      exact ⟨W2, .op F q hl hd hh non hx e2, m2⟩
theorem Exp.open (e : Exp W W1) (nc : ∀ b n X, W1 b ≠ some (.abs n X)) (h : W a = some (.abs n X)) : ∃ F, F.length = n ∧ F.Nodup ∧ F.head? = some a ∧ (∀ b ∈ F, b ≠ a → W b = none) ∧ Exp (addW W F (X F)) W1 := by
  induction e with
  | refl => exact (nc _ _ _ h).elim
  | op F' h0 hl hd hh hf hx t ih =>
    rename_i W W1 a' n' X'
    by_cases q : a = a'
    · subst q
      rw [h] at h0; cases h0
      exact ⟨F', hl, hd, hh, hf, t⟩
    · have z : a ∉ F' := fun z => by rw [hf a z q] at h; cases h
      obtain ⟨F, k1, k2, k3, k4, k5⟩ := ih nc (by rw [aw_out z]; exact h)
      have out : ∀ b ∈ F, b ∉ F' := fun b hb hb' => by
        by_cases w : b = a
        · subst w; exact z hb'
        · have := k4 b hb w
          rw [aw_in hb'] at this
          have y := (hx b).mpr hb'
          rw [this] at y; cases y
      refine ⟨F, k1, k2, k3, fun b hb hne => ?_, ?_⟩
      · have := k4 b hb hne
        rwa [aw_out (out b hb)] at this
      · have o2 : ∀ b ∈ F', b ∉ F := fun b h1 h2 => out b h2 h1
        refine .op F' (by rw [aw_out (o2 _ (head_mem hh))]; exact h0) hl hd hh (fun b hb hne => by rw [aw_out (o2 b hb)]; exact hf b hb hne) hx ?_
        rw [aw_comm (fun b hb => out b hb)]
        exact k5
end
structure Sta (K : PySem.W.Frag) (B : Hp) (W : Wd) (H : Hp) : Prop where
  out : ∃ W1, Exp W W1 ∧ StaC K B W1 H
section
variable {B B' H H' : Hp} {W W' : Wd} {a p : Addr} {o : HO} {c c' : Cell}
theorem StaC.nab (s : StaC K B W H) : ∀ b n X, W b ≠ some (.abs n X) := fun b n X h => by
  obtain ⟨_, o, _, r⟩ := s.own b _ h
  cases r
theorem CellR.nab (r : CellR K B o c) : ∀ n X, c ≠ .abs n X := fun n X h => by subst h; cases r
theorem Sta.of (s : StaC K B W H) : Sta K B W H := ⟨W, .refl _, s⟩
theorem Sta.ex (s : Sta K B W H) : Ex B H := by obtain ⟨W1, e, s⟩ := s.out; exact s.ex
theorem Sta.nnone (s : Sta K B W H) (h : H p = none) : W p = none := by obtain ⟨W1, e, s⟩ := s.out; exact e.dom (s.nnone h)
theorem Sta.new (s : Sta K B W H) (h : H p = none) (r : CellR K B o c) : Sta K B (wset W p c) (upd H p o) := by obtain ⟨W1, e, s⟩ := s.out; exact ⟨_, e.setN (s.nnone h), s.new h r⟩
theorem Sta.newB (s : Sta K B W H) (h : H p = none) : Sta K (upd B p o) W (upd H p o) ∧ Ex B (upd B p o) := by obtain ⟨W1, e, s⟩ := s.out; exact ⟨⟨_, e, (s.newB h).1⟩, (s.newB (o := o) h).2⟩
theorem Sta.set (s : Sta K B W H) (h : W a = some c') (r : CellR K B o c) (nc : ∀ n X, c' ≠ .abs n X := by intro _ _ z; cases z) : Sta K B (wset W a c) (upd H a o) := by obtain ⟨W1, e, s⟩ := s.out; exact ⟨_, e.setS h nc, s.set (e.get h nc) r⟩
theorem Sta.frz (s : Sta K B W H) (h : W a = some c) (h2 : H a = some o) (nc : ∀ n X, c ≠ .abs n X := by intro _ _ z; cases z) : Sta K (upd B a o) (wer W a) H ∧ Ex B (upd B a o) := by obtain ⟨W1, e, s⟩ := s.out; exact ⟨⟨_, e.erS h nc, (s.frz (e.get h nc) h2).1⟩, (s.frz (e.get h nc) h2).2⟩
theorem Sta.sub (s : Sta K B W H) (h : Sub W' W) : Sta K B W' H := by
  obtain ⟨W1, e, s⟩ := s.out
  obtain ⟨W2, e2, m⟩ := e.sub h
  exact ⟨W2, e2, s.sub m⟩
theorem Sta.lst (s : Sta K B W H) {ds : List D} (h : W a = some (.lst ds)) : ∃ xs, H a = some (.lst xs) ∧ Reps K B xs ds := by obtain ⟨W1, e, s⟩ := s.out; exact s.lst (e.get h (by intro _ _ z; cases z))
theorem Sta.dct (s : Sta K B W H) {q : List (Key × D)} (h : W a = some (.dct q)) : ∃ r, H a = some (.dK r) ∧ RepP K B r q := by obtain ⟨W1, e, s⟩ := s.out; exact s.dct (e.get h (by intro _ _ z; cases z))
theorem Sta.ins (s : Sta K B W H) {C : Addr} {q : List (Str × D)} (h : W a = some (.ins C q)) : ∃ dx r, H a = some (.ins C dx r) ∧ RepP K B r q := by obtain ⟨W1, e, s⟩ := s.out; exact s.ins (e.get h (by intro _ _ z; cases z))
theorem Sta.locked (s : Sta K B W H) {q : List (Key × D)} {ob : Obj} {u : HO} (h : W a = some (.lock ob u q)) : ∃ r, u = .dK r ∧ H a = some (.frz ob (.dK r)) ∧ RepP K B r q := by
  obtain ⟨W1, e, s⟩ := s.out
  obtain ⟨_, o, g1, g2⟩ := s.own _ _ (e.get h (by intro _ _ z; cases z))
  cases g2 with | lock g2 => exact ⟨_, rfl, g1, g2⟩
theorem Sta.junk (s : Sta K B W H) (h : H p = none) : Sta K B W (upd H p o) := by
  obtain ⟨W1, e, s⟩ := s.out
  refine ⟨W1, e, s.ex.trans (Evl.Ex.new h), fun a c q => ?_⟩
  obtain ⟨h1, o', h2, h3⟩ := s.own a c q
  exact ⟨h1, o', (Evl.Ex.new h) a o' h2, h3⟩
theorem Sta.open (s : Sta K B W H) {n : Nat} {X : List Addr → Wd} (h : W a = some (.abs n X)) : ∃ F, F.length = n ∧ F.Nodup ∧ F.head? = some a ∧ (∀ b ∈ F, b ≠ a → W b = none) ∧ Sta K B (addW W F (X F)) H := by
  obtain ⟨W1, e, s⟩ := s.out
  obtain ⟨F, k1, k2, k3, k4, k5⟩ := e.open s.nab h
  exact ⟨F, k1, k2, k3, k4, _, k5, s⟩
def Vs (W W' : Wd) : Prop := ∀ (K : PySem.W.Frag) (B H : Hp), Sta K B W H → Sta K B W' H
theorem Vs.of (h : Sub W' W) : Vs W W' := fun _ _ _ s => s.sub h
theorem Vs.refl (W : Wd) : Vs W W := fun _ _ _ s => s
theorem Vs.trans {W2 : Wd} (h : Vs W W') (k : Vs W' W2) : Vs W W2 := fun K B H s => k K B H (h K B H s)
theorem vs_close {n : Nat} {X : List Addr → Wd} {F : List Addr} (h : W a = some (.abs n X)) (hl : F.length = n) (hd : F.Nodup) (hh : F.head? = some a) (hf : ∀ b ∈ F, b ≠ a → W b = none) (hx : ∀ b, (X F b).isSome = true ↔ b ∈ F) : Vs (addW W F (X F)) W := fun K B H s => by
  obtain ⟨W1, e, s⟩ := s.out
  exact ⟨W1, .op F h hl hd hh hf hx e, s⟩
end
structure EnvR (K : PySem.W.Frag) (B : Hp) (σ : L2.St) (e : Env) : Prop where
  len : σ.length = e.length
  at' : ∀ (i : Nat) (d : D), e[i]? = some (some d) → ∃ v, σ[i]? = some (some v) ∧ Rep K B v d
section
variable {B B' : Hp} {σ : L2.St} {e e' : Env}
theorem EnvR.mono (x : Ex B B') (h : EnvR K B σ e) : EnvR K B' σ e := ⟨h.len, fun i d q => by
  obtain ⟨v, h1, h2⟩ := h.at' i d q
  exact ⟨v, h1, h2.mono x⟩⟩
theorem EnvR.set (h : EnvR K B σ e) {i : Nat} {v : V} {d : D} (r : Rep K B v d) : EnvR K B (σ.set i (some v)) (e.set i (some d)) := ⟨by simp [h.len], fun j d' q => by
  by_cases z : i = j
  · subst z
    rw [List.getElem?_set] at q ⊢
    simp only [if_true] at q ⊢
    rw [h.len]
    split at q
    · cases q; rename_i hl; rw [if_pos hl]; exact ⟨v, rfl, r⟩
    · cases q
  · rw [List.getElem?_set_ne z] at q ⊢
    exact h.at' j d' q⟩
theorem EnvR.wipe1 (h : EnvR K B σ e) {i : Nat} {x : Option V} : EnvR K B (σ.set i x) (e.set i none) := ⟨by simp [h.len], fun j d' q => by
  by_cases z : i = j
  · subst z
    rw [List.getElem?_set] at q
    simp only [if_true] at q
    split at q <;> cases q
  · rw [List.getElem?_set_ne z] at q ⊢
    exact h.at' j d' q⟩
def EnvLe (e e' : Env) : Prop := e.length = e'.length ∧ ∀ (i : Nat) (d : D), e[i]? = some (some d) → e'[i]? = some (some d)
theorem EnvLe.refl (e : Env) : EnvLe e e := ⟨rfl, fun _ _ h => h⟩
theorem EnvR.le (h : EnvR K B σ e) (l : EnvLe e' e) : EnvR K B σ e' := ⟨by rw [h.len, l.1], fun i d q => h.at' i d (l.2 i d q)⟩
theorem EnvLe.cons {x y : Option D} {e e' : Env} (h : x = y ∨ x = none) (t : EnvLe e e') : EnvLe (x :: e) (y :: e') := ⟨by simp [t.1], fun i d q => by
  cases i with
  | zero =>
    rcases h with rfl | rfl
    · exact q
    · simp at q
  | succ i => simp at q ⊢; exact t.2 i d q⟩
theorem EnvLe.nil : EnvLe [] [] := .refl _
end
end
abbrev KD := D → Wd → Prop
structure DE where
  nx : Env → Wd → Prop
  rt : KD
  bk : Env → Wd → Prop := fun _ _ => False
  ct : Env → Wd → Prop := fun _ _ => False
def WE (K : PySem.W.Frag) (te : TE) (e : Env) (W : Wd) (Q : KD) : Prop :=
  ∀ (B : Hp) (σ : L2.St) (H : Hp) (k : VK), Sta K B W H → EnvR K B σ e → (∀ v B' H' d W', Ex B B' → Sta K B' W' H' → Rep K B' v d → Q d W' → k v H') → te σ H k
def WA (K : PySem.W.Frag) (ta : TA) (e : Env) (W : Wd) (Q : List D → Wd → Prop) : Prop :=
  ∀ (B : Hp) (σ : L2.St) (H : Hp) (k : List V → Hp → Prop), Sta K B W H → EnvR K B σ e → (∀ vs B' H' ds W', Ex B B' → Sta K B' W' H' → Reps K B' vs ds → Q ds W' → k vs H') → ta σ H k
def WT (K : PySem.W.Frag) (tt : TT) (e : Env) (W : Wd) (Q : Bool → Wd → Prop) : Prop :=
  ∀ (B : Hp) (σ : L2.St) (H : Hp) (k : Bool → Hp → Prop), Sta K B W H → EnvR K B σ e → (∀ b B' H' W', Ex B B' → Sta K B' W' H' → Q b W' → k b H') → tt σ H k
def WO (K : PySem.W.Frag) (to : TO) (e : Env) (W : Wd) (Q : Option Int → Wd → Prop) : Prop :=
  ∀ (B : Hp) (σ : L2.St) (H : Hp) (k : Option Int → Hp → Prop), Sta K B W H → EnvR K B σ e → (∀ b B' H' W', Ex B B' → Sta K B' W' H' → Q b W' → k b H') → to σ H k
def WS (K : PySem.W.Frag) (ts : TS) (e : Env) (W : Wd) (E : DE) : Prop :=
  ∀ (Dn : Ends) (B : Hp) (σ : L2.St) (H : Hp), Sta K B W H → EnvR K B σ e →
    (∀ σ' B' H' e' W', Ex B B' → Sta K B' W' H' → EnvR K B' σ' e' → E.nx e' W' → Dn.nx σ' H') →
    (∀ v B' H' d W', Ex B B' → Sta K B' W' H' → Rep K B' v d → E.rt d W' → Dn.rt v H') →
    (∀ σ' B' H' e' W', Ex B B' → Sta K B' W' H' → EnvR K B' σ' e' → E.bk e' W' → Dn.bk σ' H') →
    (∀ σ' B' H' e' W', Ex B B' → Sta K B' W' H' → EnvR K B' σ' e' → E.ct e' W' → Dn.ct σ' H') → ts Dn σ H
def WG (K : PySem.W.Frag) (tg : TG) (x : D) (e : Env) (W : Wd) (Q : Env → Wd → Prop) : Prop :=
  ∀ (B : Hp) (σ : L2.St) (H : Hp) (v : V) (k : L2.St → Hp → Prop), Sta K B W H → EnvR K B σ e → Rep K B v x → (∀ σ' B' H' e' W', Ex B B' → Sta K B' W' H' → EnvR K B' σ' e' → Q e' W' → k σ' H') → tg v σ H k
def WGs (K : PySem.W.Frag) (tg : TGs) (xs : List D) (e : Env) (W : Wd) (Q : Env → Wd → Prop) : Prop :=
  ∀ (B : Hp) (σ : L2.St) (H : Hp) (vs : List V) (k : L2.St → Hp → Prop), Sta K B W H → EnvR K B σ e → Reps K B vs xs → (∀ σ' B' H' e' W', Ex B B' → Sta K B' W' H' → EnvR K B' σ' e' → Q e' W' → k σ' H') → tg vs σ H k
def RD (K : PySem.W.Frag) (r : R2) (x y : D) (W : Wd) (Q : KD) : Prop :=
  ∀ (B H : Hp) (v w : V) (k : VK), Sta K B W H → Rep K B v x → Rep K B w y → (∀ v B' H' d W', Ex B B' → Sta K B' W' H' → Rep K B' v d → Q d W' → k v H') → r v w H k
def RU (K : PySem.W.Frag) (r : V → Hp → VK → Prop) (x : D) (W : Wd) (Q : KD) : Prop :=
  ∀ (B H : Hp) (v : V) (k : VK), Sta K B W H → Rep K B v x → (∀ v B' H' d W', Ex B B' → Sta K B' W' H' → Rep K B' v d → Q d W' → k v H') → r v H k
def RC (K : PySem.W.Frag) (r : List V → Hp → VK → Prop) (xs : List D) (W : Wd) (Q : KD) : Prop :=
  ∀ (B H : Hp) (vs : List V) (k : VK), Sta K B W H → Reps K B vs xs → (∀ v B' H' d W', Ex B B' → Sta K B' W' H' → Rep K B' v d → Q d W' → k v H') → r vs H k
abbrev PF := List D → Wd → KD → Prop
def lift (K : PySem.W.Frag) (p : PF) : Sp := fun vs H Q _ => ∃ B W ds Q0, Sta K B W H ∧ Reps K B vs ds ∧ p ds W Q0 ∧ ∀ v B' H' d W', Ex B B' → Sta K B' W' H' → Rep K B' v d → Q0 d W' → Q v H'
def FzQ (Q : KD) : KD := fun d W => Q d W ∨ (∃ a ds, d = .ptr a ∧ W a = some (.lst ds) ∧ Q (.lst ds) (wer W a)) ∨ ∃ a C fs, d = .ptr a ∧ W a = some (.ins C fs) ∧ Q (.obj C (fs.map (·.1)) (fs.map (·.2))) (wer W a)
def SubQ (Q : KD) : KD := fun d W => ∃ W', Vs W W' ∧ Q d W'
def Nx (I : Env → Wd → Prop) : Env → Wd → Prop := fun e W => ∃ e' W', EnvLe e' e ∧ Vs W W' ∧ I e' W'
section
variable {K : PySem.W.Frag} {e : Env} {W : Wd} {te ta tb tx ty : TE} {Q : KD} {ts tu tw : TS} {E : DE} {x y z d : D} {i : Nat}
theorem zip_fs {S : Hp} {r : List (Str × V)} {q : List (Str × D)} (h : RepP K S r q) : ∃ xs, r = (q.map (·.1)).zip xs ∧ (q.map (·.1)).length = xs.length ∧ Reps K S xs (q.map (·.2)) := by
  induction h with
  | nil => exact ⟨[], rfl, rfl, .nil⟩
  | cons h _ ih =>
    obtain ⟨xs, h1, h2, h3⟩ := ih
    rename_i k v d r q _
    exact ⟨v :: xs, by simp [h1], by simpa using h2, .cons h h3⟩
theorem fz_sem {B H : Hp} {v : V} {k : VK} (s : Sta K B W H) (r : Rep K B v d) (q : FzQ Q d W) (hk : ∀ v B' H' d W', Ex B B' → Sta K B' W' H' → Rep K B' v d → Q d W' → k v H') : k v H := by
  rcases q with q | ⟨a, ds, rfl, h, q⟩ | ⟨a, C, fs, rfl, h, q⟩
  · exact hk v B H d W (Evl.Ex.refl _) s r q
  · obtain ⟨xs, h1, h2⟩ := s.lst h
    obtain ⟨s2, e2⟩ := s.frz h h1
    cases r
    exact hk _ _ H _ _ e2 s2 (.lst upd_same (h2.mono e2)) q
  · obtain ⟨dx, r', h1, h2⟩ := s.ins h
    obtain ⟨xs, rfl, h3, h4⟩ := zip_fs h2
    obtain ⟨s2, e2⟩ := s.frz h h1
    cases r
    exact hk _ _ H _ _ e2 s2 (.obj upd_same h3 (h4.mono e2)) q
theorem we_fz (q : WE K te e W (FzQ Q)) : WE K te e W Q := fun B σ H k s r hk =>
  q B σ H k s r fun v B' H' d W' e1 s1 r1 q1 => fz_sem s1 r1 q1 fun v2 B2 H2 d2 W2 e2 s2 r2 q2 => hk v2 B2 H2 d2 W2 (e1.trans e2) s2 r2 q2
theorem we_subq (q : WE K te e W (SubQ Q)) : WE K te e W Q := fun B σ H k s r hk =>
  q B σ H k s r fun v B' H' d W' e1 s1 r1 q1 => by
    obtain ⟨W2, h2, q2⟩ := q1
    exact hk v B' H' d W2 e1 (h2 _ _ _ s1) r1 q2
theorem we_var (h : e[i]? = some (some d)) (q : Q d W) : WE K (tVar i) e W Q := fun B σ H k s r hk => by
  obtain ⟨v, h1, h2⟩ := r.at' i d h
  exact ⟨v, h1, hk v B H d W (Evl.Ex.refl _) s h2 q⟩
theorem we_c {v : V} (q : Q (.raw v) W) : WE K (tC v) e W Q := fun B σ H k s r hk => hk v B H _ W (Evl.Ex.refl _) s (.raw v) q
theorem we_op {r : R2} (q : WE K ta e W fun x W1 => WE K tb e W1 fun y W2 => RD K r x y W2 Q) : WE K (tOp r ta tb) e W Q := fun B σ H k s r hk =>
  q B σ H _ s r fun v B1 H1 d W1 e1 s1 r1 q1 => q1 B1 σ H1 _ s1 (r.mono e1) fun w B2 H2 d2 W2 e2 s2 r2 q2 => q2 B2 H2 v w k s2 (r1.mono e2) r2 fun u B3 H3 d3 W3 e3 s3 r3 q3 => hk u B3 H3 d3 W3 ((e1.trans e2).trans e3) s3 r3 q3
theorem we_un {r : V → Hp → VK → Prop} (q : WE K ta e W fun x W1 => RU K r x W1 Q) : WE K (tUn r ta) e W Q := fun B σ H k s r hk =>
  q B σ H _ s r fun v B1 H1 d W1 e1 s1 r1 q1 => q1 B1 H1 v k s1 r1 fun u B3 H3 d3 W3 e3 s3 r3 q3 => hk u B3 H3 d3 W3 (e1.trans e3) s3 r3 q3
theorem rd_raw {r : R2} {a b c : V} (h : ∀ (H : Hp) (k : VK), k c H → r a b H k) (q : Q (.raw c) W) : RD K r (.raw a) (.raw b) W Q := fun B H v w k s r1 r2 hk => by
  cases r1; cases r2
  exact h H k (hk c B H _ W (Evl.Ex.refl _) s (.raw c) q)
theorem ru_raw {r : V → Hp → VK → Prop} {a c : V} (h : ∀ (H : Hp) (k : VK), k c H → r a H k) (q : Q (.raw c) W) : RU K r (.raw a) W Q := fun B H v k s r1 hk => by
  cases r1
  exact h H k (hk c B H _ W (Evl.Ex.refl _) s (.raw c) q)
theorem rc_raw1 {r : List V → Hp → VK → Prop} {a c : V} (h : ∀ (H : Hp) (k : VK), k c H → r [a] H k) (q : Q (.raw c) W) : RC K r [.raw a] W Q := fun B H v k s r1 hk => by
  cases r1 with
  | cons r1 r2 =>
    cases r1; cases r2
    exact h H k (hk c B H _ W (Evl.Ex.refl _) s (.raw c) q)
theorem rc_raw2 {r : List V → Hp → VK → Prop} {a b c : V} (h : ∀ (H : Hp) (k : VK), k c H → r [a, b] H k) (q : Q (.raw c) W) : RC K r [.raw a, .raw b] W Q := fun B H v k s r1 hk => by
  cases r1 with
  | cons r1 r2 =>
    cases r1
    cases r2 with
    | cons r2 r3 =>
      cases r2; cases r3
      exact h H k (hk c B H _ W (Evl.Ex.refl _) s (.raw c) q)
theorem d_i0 {f : Int → Int → V} {a b : Int} (q : Q (.raw (f a b)) W) : RD K (rI0 f) (.raw (.int a)) (.raw (.int b)) W Q := rd_raw (fun _ _ => w_i0) q
theorem d_i {C : Int → Int → Prop} {f : Int → Int → V} {a b : Int} (hc : C a b) (q : Q (.raw (f a b)) W) : RD K (rI C f) (.raw (.int a)) (.raw (.int b)) W Q := rd_raw (fun _ _ => w_i hc) q
theorem d_u {f : Int → V} {a : Int} (q : Q (.raw (f a)) W) : RU K (rU f) (.raw (.int a)) W Q := ru_raw (fun _ _ => w_u) q
theorem d_eqI {a b : Int} (q : Q (.raw (.bl (dB (a = b)))) W) : RD K rEq (.raw (.int a)) (.raw (.int b)) W Q := rd_raw (fun _ _ => w_eqI) q
theorem d_neI {a b : Int} (q : Q (.raw (.bl (!dB (a = b)))) W) : RD K rNe (.raw (.int a)) (.raw (.int b)) W Q := rd_raw (fun _ _ => w_neI) q
theorem d_eqS {a b : Str} (q : Q (.raw (.bl (dB (a = b)))) W) : RD K rEq (.raw (.str a)) (.raw (.str b)) W Q := rd_raw (fun _ _ => w_eqS) q
theorem d_neS {a b : Str} (q : Q (.raw (.bl (!dB (a = b)))) W) : RD K rNe (.raw (.str a)) (.raw (.str b)) W Q := rd_raw (fun _ _ => w_neS) q
theorem d_lt {a b : Int} (q : Q (.raw (.bl (dB (a < b)))) W) : RD K rLt (.raw (.int a)) (.raw (.int b)) W Q := rd_raw (fun _ _ => w_lt) q
theorem d_le {a b : Int} (q : Q (.raw (.bl (dB (a ≤ b)))) W) : RD K rLe (.raw (.int a)) (.raw (.int b)) W Q := rd_raw (fun _ _ => w_le) q
theorem d_gt {a b : Int} (q : Q (.raw (.bl (dB (b < a)))) W) : RD K rGt (.raw (.int a)) (.raw (.int b)) W Q := rd_raw (fun _ _ => w_gt) q
theorem d_ge {a b : Int} (q : Q (.raw (.bl (dB (b ≤ a)))) W) : RD K rGe (.raw (.int a)) (.raw (.int b)) W Q := rd_raw (fun _ _ => w_ge) q
theorem d_ltS {a b : Str} (q : Q (.raw (.bl (dB (a.cps.toList < b.cps.toList)))) W) : RD K rLtS (.raw (.str a)) (.raw (.str b)) W Q := rd_raw (fun _ _ => w_ltS) q
theorem d_leS {a b : Str} (q : Q (.raw (.bl (!dB (b.cps.toList < a.cps.toList)))) W) : RD K rLeS (.raw (.str a)) (.raw (.str b)) W Q := rd_raw (fun _ _ => w_leS) q
theorem d_gtS {a b : Str} (q : Q (.raw (.bl (dB (b.cps.toList < a.cps.toList)))) W) : RD K rGtS (.raw (.str a)) (.raw (.str b)) W Q := rd_raw (fun _ _ => w_gtS) q
theorem d_geS {a b : Str} (q : Q (.raw (.bl (!dB (a.cps.toList < b.cps.toList)))) W) : RD K rGeS (.raw (.str a)) (.raw (.str b)) W Q := rd_raw (fun _ _ => w_geS) q
theorem d_addS {a b : Str} (h : a.length + b.length ≤ sizeLine) (q : Q (.raw (.str (a ++ b))) W) : RD K rAddS (.raw (.str a)) (.raw (.str b)) W Q := rd_raw (fun _ _ => w_addS h) q
theorem d_inS {c : Nat} {w : Str} (q : Q (.raw (.bl (dB (c ∈ w.cps.toList)))) W) : RD K rInS (.raw (.str ⟨#[c]⟩)) (.raw (.str w)) W Q := rd_raw (fun _ _ => w_inS) q
theorem d_ninS {c : Nat} {w : Str} (q : Q (.raw (.bl (!dB (c ∈ w.cps.toList)))) W) : RD K rNotInS (.raw (.str ⟨#[c]⟩)) (.raw (.str w)) W Q := rd_raw (fun _ _ => w_ninS) q
theorem d_isNN (q : Q (.raw (.bl true)) W) : RD K rIsN (.raw .non) (.raw .non) W Q := rd_raw (fun _ _ => w_isNN) q
theorem d_isNI {a : Int} (q : Q (.raw (.bl false)) W) : RD K rIsN (.raw (.int a)) (.raw .non) W Q := rd_raw (fun _ _ => w_isNI) q
theorem d_isNS {a : Str} (q : Q (.raw (.bl false)) W) : RD K rIsN (.raw (.str a)) (.raw .non) W Q := rd_raw (fun _ _ => w_isNS) q
theorem d_isNR {a : Addr} (q : Q (.raw (.bl false)) W) : RD K rIsN (.raw (.ref a)) (.raw .non) W Q := rd_raw (fun _ _ => w_isNR) q
theorem d_notNN (q : Q (.raw (.bl false)) W) : RD K rNotN (.raw .non) (.raw .non) W Q := rd_raw (fun _ _ => w_notNN) q
theorem d_notNI {a : Int} (q : Q (.raw (.bl true)) W) : RD K rNotN (.raw (.int a)) (.raw .non) W Q := rd_raw (fun _ _ => w_notNI) q
theorem d_notNS {a : Str} (q : Q (.raw (.bl true)) W) : RD K rNotN (.raw (.str a)) (.raw .non) W Q := rd_raw (fun _ _ => w_notNS) q
theorem d_notNR {a : Addr} (q : Q (.raw (.bl true)) W) : RD K rNotN (.raw (.ref a)) (.raw .non) W Q := rd_raw (fun _ _ => w_notNR) q
theorem rep_ref {B : Hp} {v : V} (h : Rep K B v d) (n : ∀ w, d ≠ .raw w) : ∃ a, v = .ref a := by
  cases h with
  | raw v => exact (n v rfl).elim
  | lst h hs => exact ⟨_, rfl⟩
  | tup h hs => exact ⟨_, rfl⟩
  | obj h hl hs => exact ⟨_, rfl⟩
  | scr h => exact ⟨_, rfl⟩
theorem d_isND (n : ∀ w, d ≠ .raw w) (q : Q (.raw (.bl false)) W) : RD K rIsN d (.raw .non) W Q := fun B H v w k s r1 r2 hk => by
  cases r2
  obtain ⟨a, rfl⟩ := rep_ref r1 n
  exact w_isNR (hk _ B H _ W (Evl.Ex.refl _) s (.raw _) q)
theorem d_notND (n : ∀ w, d ≠ .raw w) (q : Q (.raw (.bl true)) W) : RD K rNotN d (.raw .non) W Q := fun B H v w k s r1 r2 hk => by
  cases r2
  obtain ⟨a, rfl⟩ := rep_ref r1 n
  exact w_notNR (hk _ B H _ W (Evl.Ex.refl _) s (.raw _) q)
variable {t u : TT} {QB : Bool → Wd → Prop}
theorem we_test (q : WE K te e W fun x W' => ∃ b, x = .raw (.bl b) ∧ QB b W') : WT K (tTest te) e W QB := fun B σ H k s r hk =>
  q B σ H _ s r fun v B1 H1 d W1 e1 s1 r1 q1 => by
    obtain ⟨b, rfl, q1⟩ := q1
    cases r1
    exact ⟨b, rfl, hk b B1 H1 W1 e1 s1 q1⟩
theorem we_tB (q : WE K te e W fun x W' => ∃ b, x = .raw (.bl b) ∧ QB b W') : WT K (tB te) e W QB := fun B σ H k s r hk =>
  q B σ H _ s r fun v B1 H1 d W1 e1 s1 r1 q1 => by
    obtain ⟨b, rfl, q1⟩ := q1
    cases r1
    exact ⟨b, rfl, hk b B1 H1 W1 e1 s1 q1⟩
theorem we_bl {b : Bool} {P : Bool → Prop} (q : P b) : ∃ c, D.raw (.bl b) = .raw (.bl c) ∧ P c := ⟨b, rfl, q⟩
theorem we_and (q : WT K t e W fun c W1 => if c = true then WT K u e W1 QB else QB false W1) : WT K (tAnd t u) e W QB := fun B σ H k s r hk =>
  q B σ H _ s r fun c B1 H1 W1 e1 s1 q1 => by
    cases c with
    | true => exact (iteT ((show WT K u e W1 QB from q1) B1 σ H1 k s1 (r.mono e1) fun b B2 H2 W2 e2 s2 q2 => hk b B2 H2 W2 (e1.trans e2) s2 q2) : if true = true then _ else k false H1)
    | false => exact (iteF (hk false B1 H1 W1 e1 s1 q1) : if false = true then u σ H1 k else _)
theorem we_or (q : WT K t e W fun c W1 => if c = true then QB true W1 else WT K u e W1 QB) : WT K (tOr t u) e W QB := fun B σ H k s r hk =>
  q B σ H _ s r fun c B1 H1 W1 e1 s1 q1 => by
    cases c with
    | false => exact (iteF ((show WT K u e W1 QB from q1) B1 σ H1 k s1 (r.mono e1) fun b B2 H2 W2 e2 s2 q2 => hk b B2 H2 W2 (e1.trans e2) s2 q2) : if false = true then k true H1 else _)
    | true => exact (iteT (hk true B1 H1 W1 e1 s1 q1) : if true = true then _ else u σ H1 k)
theorem we_not (q : WT K t e W fun c W1 => QB (!c) W1) : WT K (tNot t) e W QB := fun B σ H k s r hk => q B σ H _ s r fun c B1 H1 W1 e1 s1 q1 => hk (!c) B1 H1 W1 e1 s1 q1
theorem we_andV (q : WE K ta e W fun x W1 => ∃ c, x = .raw (.bl c) ∧ if c = true then WE K tb e W1 Q else Q (.raw (.bl false)) W1) : WE K (tAndV ta tb) e W Q := fun B σ H k s r hk =>
  q B σ H _ s r fun v B1 H1 d W1 e1 s1 r1 q1 => by
    obtain ⟨c, rfl, q1⟩ := q1
    cases r1
    refine ⟨c, rfl, ?_⟩
    cases c with
    | true => exact (iteT ((show WE K tb e W1 Q from q1) B1 σ H1 k s1 (r.mono e1) fun b B2 H2 d2 W2 e2 s2 r2 q2 => hk b B2 H2 d2 W2 (e1.trans e2) s2 r2 q2) : if true = true then _ else k (.bl false) H1)
    | false => exact (iteF (hk _ B1 H1 _ W1 e1 s1 (.raw _) q1) : if false = true then tb σ H1 k else _)
theorem we_orV (q : WE K ta e W fun x W1 => ∃ c, x = .raw (.bl c) ∧ if c = true then Q (.raw (.bl true)) W1 else WE K tb e W1 Q) : WE K (tOrV ta tb) e W Q := fun B σ H k s r hk =>
  q B σ H _ s r fun v B1 H1 d W1 e1 s1 r1 q1 => by
    obtain ⟨c, rfl, q1⟩ := q1
    cases r1
    refine ⟨c, rfl, ?_⟩
    cases c with
    | false => exact (iteF ((show WE K tb e W1 Q from q1) B1 σ H1 k s1 (r.mono e1) fun b B2 H2 d2 W2 e2 s2 r2 q2 => hk b B2 H2 d2 W2 (e1.trans e2) s2 r2 q2) : if false = true then k (.bl true) H1 else _)
    | true => exact (iteT (hk _ B1 H1 _ W1 e1 s1 (.raw _) q1) : if true = true then _ else tb σ H1 k)
theorem we_notV (q : WE K ta e W fun x W1 => ∃ c, x = .raw (.bl c) ∧ Q (.raw (.bl (!c))) W1) : WE K (tNotV ta) e W Q := fun B σ H k s r hk =>
  q B σ H _ s r fun v B1 H1 d W1 e1 s1 r1 q1 => by
    obtain ⟨c, rfl, q1⟩ := q1
    cases r1
    exact ⟨c, rfl, hk _ B1 H1 _ W1 e1 s1 (.raw _) q1⟩
theorem we_if (q : WT K t e W fun c W1 => if c = true then WE K ta e W1 Q else WE K tb e W1 Q) : WE K (tIf t ta tb) e W Q := fun B σ H k s r hk =>
  q B σ H _ s r fun c B1 H1 W1 e1 s1 q1 => by
    cases c with
    | true => exact (iteT ((show WE K ta e W1 Q from q1) B1 σ H1 k s1 (r.mono e1) fun b B2 H2 d2 W2 e2 s2 r2 q2 => hk b B2 H2 d2 W2 (e1.trans e2) s2 r2 q2) : if true = true then _ else tb σ H1 k)
    | false => exact (iteF ((show WE K tb e W1 Q from q1) B1 σ H1 k s1 (r.mono e1) fun b B2 H2 d2 W2 e2 s2 r2 q2 => hk b B2 H2 d2 W2 (e1.trans e2) s2 r2 q2) : if false = true then ta σ H1 k else _)
theorem we_chain {r1 r2 : R2} (q : WE K ta e W fun x W1 => WE K tb e W1 fun y W2 => RD K r1 x y W2 fun z W3 => ∃ c, z = .raw (.bl c) ∧ if c = true then WE K tx e W3 fun w W4 => RD K r2 y w W4 Q else Q (.raw (.bl false)) W3) : WE K (tChain r1 r2 ta tb tx) e W Q := fun B σ H k s r hk =>
  q B σ H _ s r fun v B1 H1 d W1 e1 s1 g1 q1 => q1 B1 σ H1 _ s1 (r.mono e1) fun w B2 H2 d2 W2 e2 s2 g2 q2 => q2 B2 H2 v w _ s2 (g1.mono e2) g2 fun z B3 H3 d3 W3 e3 s3 g3 q3 => by
    obtain ⟨c, rfl, q3⟩ := q3
    cases g3
    have e13 := (e1.trans e2).trans e3
    refine ⟨c, rfl, ?_⟩
    cases c with
    | true => exact (iteT ((show WE K tx e W3 _ from q3) B3 σ H3 _ s3 (r.mono e13) fun u B4 H4 d4 W4 e4 s4 g4 q4 => q4 B4 H4 w u k s4 ((g2.mono e3).mono e4) g4 fun x B5 H5 d5 W5 e5 s5 g5 q5 => hk x B5 H5 d5 W5 ((e13.trans e4).trans e5) s5 g5 q5) : if true = true then _ else k (.bl false) H3)
    | false => exact (iteF (hk _ B3 H3 _ W3 e13 s3 (.raw _) q3) : if false = true then tx σ H3 _ else _)
variable {tr tl : TA} {QA : List D → Wd → Prop}
theorem wa_nil (q : QA [] W) : WA K tNil e W QA := fun B σ H k s r hk => hk [] B H [] W (Evl.Ex.refl _) s .nil q
theorem wa_cons (q : WE K ta e W fun x W1 => WA K tr e W1 fun xs W2 => QA (x :: xs) W2) : WA K (tCons ta tr) e W QA := fun B σ H k s r hk =>
  q B σ H _ s r fun v B1 H1 d W1 e1 s1 r1 q1 => q1 B1 σ H1 _ s1 (r.mono e1) fun vs B2 H2 ds W2 e2 s2 r2 q2 => hk _ B2 H2 _ W2 (e1.trans e2) s2 (.cons (r1.mono e2) r2) q2
theorem we_call {p : PF} (q : WA K tl e W fun ds W1 => p ds W1 Q) : WE K (tCall (lift K p) [] E0 tl) e W Q := fun B σ H k s r hk =>
  q B σ H _ s r fun vs B1 H1 ds W1 e1 s1 r1 q1 => by
    rw [List.append_nil]
    exact ⟨B1, W1, ds, Q, s1, r1, q1, fun v B' H' d W' e2 s2 r2 q2 => hk v B' H' d W' (e1.trans e2) s2 r2 q2⟩
theorem we_cb {r : List V → Hp → VK → Prop} (q : WA K tl e W fun ds W1 => RC K r ds W1 Q) : WE K (tCB r tl) e W Q := fun B σ H k s r hk =>
  q B σ H _ s r fun vs B1 H1 ds W1 e1 s1 r1 q1 => q1 B1 H1 vs k s1 r1 fun v B' H' d W' e2 s2 r2 q2 => hk v B' H' d W' (e1.trans e2) s2 r2 q2
theorem we_make {C : Addr} {p : PF} (q : WA K tl e W fun ds W1 => ∀ x, W1 x = none → p (.ptr x :: ds) (wset W1 x (.ins C [])) fun d W2 => d = .non ∧ Q (.ptr x) W2) : WE K (tMake C (lift K p) [] E0 tl) e W Q := fun B σ H k s r hk =>
  q B σ H _ s r fun vs B1 H1 ds W1 e1 s1 r1 q1 x dx hx hdx hne => by
    rw [List.append_nil]
    have hdx2 : (upd H1 dx (.own x)) x = none := by rw [upd_ne (Ne.symm hne)]; exact hx
    have s2 : Sta K B1 W1 (upd H1 dx (.own x)) := s1.junk hdx
    refine ⟨B1, wset W1 x (.ins C []), _, _, s2.new hdx2 (.ins .nil), .cons (.raw _) r1, q1 x (s1.nnone hx), fun v B' H' d W' e3 s3 r3 q3 => ?_⟩
    obtain ⟨rfl, q3⟩ := q3
    cases r3
    exact ⟨rfl, hk _ B' H' _ W' (e1.trans e3) s3 (.raw _) q3⟩
theorem ws_seq (q : WS K ts e W { E with nx := fun e' W' => WS K tu e' W' E }) : WS K (tSeq ts tu) e W E := fun Dn B σ H s r h1 h2 h3 h4 =>
  q { Dn with nx := tu Dn } B σ H s r (fun σ' B' H' e' W' x s' r' q' => q' Dn B' σ' H' s' r' (fun σ2 B2 H2 e2 W2 x2 => h1 σ2 B2 H2 e2 W2 (x.trans x2)) (fun v B2 H2 d2 W2 x2 => h2 v B2 H2 d2 W2 (x.trans x2)) (fun σ2 B2 H2 e2 W2 x2 => h3 σ2 B2 H2 e2 W2 (x.trans x2)) fun σ2 B2 H2 e2 W2 x2 => h4 σ2 B2 H2 e2 W2 (x.trans x2)) h2 h3 h4
theorem ws_cutS (q : WS K ts e W { E with nx := fun e' W' => WS K tu e' W' E }) : WS K (Evl.tCut ts tu) e W E := fun Dn B σ H s r h1 h2 h3 h4 =>
  ⟨tu Dn, ws_seq q Dn B σ H s r h1 h2 h3 h4, fun _ _ h => h⟩
theorem ws_next (q : E.nx e W) : WS K tNext e W E := fun Dn B σ H s r h1 _ _ _ => h1 σ B H e W (Evl.Ex.refl _) s r q
theorem ws_brk (q : E.bk e W) : WS K tBreak e W E := fun Dn B σ H s r _ _ h3 _ => h3 σ B H e W (Evl.Ex.refl _) s r q
theorem ws_cont (q : E.ct e W) : WS K tCont e W E := fun Dn B σ H s r _ _ _ h4 => h4 σ B H e W (Evl.Ex.refl _) s r q
theorem ws_asg {tg : TG} (q : WE K te e W fun x W1 => WG K tg x e W1 E.nx) : WS K (tAsg te tg) e W E := fun Dn B σ H s r h1 h2 h3 h4 =>
  q B σ H _ s r fun v B1 H1 d W1 e1 s1 r1 q1 => q1 B1 σ H1 v _ s1 (r.mono e1) r1 fun σ2 B2 H2 e2 W2 x2 => h1 σ2 B2 H2 e2 W2 (e1.trans x2)
theorem wg_name {QE : Env → Wd → Prop} {e' : Env} (h : e.set i (some x) = e') (q : QE e' W) : WG K (gName i) x e W QE := fun B σ H v k s r r1 hk => by
  subst h
  exact hk _ B H _ W (Evl.Ex.refl _) s (r.set r1) q
theorem wg_tup {n : Nat} {u : TGs} {xs : List D} {QE : Env → Wd → Prop} (l : xs.length = n) (q : WGs K u xs e W QE) : WG K (gTup K n u) (.tup xs) e W QE := fun B σ H v k s r r1 hk => by
  cases r1 with
  | tup h hs => exact ⟨_, _, rfl, ex_st s.ex h, by rw [hs.len]; exact l, q B σ H _ k s r hs hk⟩
theorem wgs_nil {QE : Env → Wd → Prop} (q : QE e W) : WGs K gNil [] e W QE := fun B σ H v k s r r1 hk => by
  cases r1
  exact ⟨rfl, hk σ B H e W (Evl.Ex.refl _) s r q⟩
theorem wgs_cons {tg : TG} {u : TGs} {xs : List D} {QE : Env → Wd → Prop} (q : WG K tg x e W fun e' W' => WGs K u xs e' W' QE) : WGs K (gCons tg u) (x :: xs) e W QE := fun B σ H v k s r r1 hk => by
  cases r1 with
  | cons h t => exact ⟨_, _, rfl, q B σ H _ _ s r h fun σ2 B2 H2 e2 W2 x2 s2 r2 q2 => q2 B2 σ2 H2 _ k s2 r2 (t.mono x2) fun σ3 B3 H3 e3 W3 x3 => hk σ3 B3 H3 e3 W3 (x2.trans x3)⟩
theorem ws_drop (q : WE K te e W fun _ W1 => E.nx e W1) : WS K (tDrop te) e W E := fun Dn B σ H s r h1 h2 h3 h4 =>
  q B σ H _ s r fun v B1 H1 d W1 e1 s1 r1 q1 => h1 σ B1 H1 e W1 e1 s1 (r.mono e1) q1
theorem ws_ret (q : WE K te e W (FzQ (SubQ E.rt))) : WS K (tRet te) e W E := fun Dn B σ H s r h1 h2 h3 h4 =>
  we_subq (we_fz q) B σ H _ s r fun v B1 H1 d W1 e1 s1 r1 q1 => h2 v B1 H1 d W1 e1 s1 r1 q1
theorem ws_retN (q : SubQ E.rt .non W) : WS K tRetN e W E := fun Dn B σ H s r h1 h2 h3 h4 => by
  obtain ⟨W', m, q⟩ := q
  exact h2 .non B H .non W' (Evl.Ex.refl _) (m _ _ _ s) (.raw _) q
theorem ws_if (q : WT K t e W fun b W1 => if b = true then WS K ts e W1 E else WS K tu e W1 E) : WS K (tIfS t ts tu) e W E := fun Dn B σ H s r h1 h2 h3 h4 =>
  q B σ H _ s r fun c B1 H1 W1 e1 s1 q1 => by
    have g1 := fun σ2 B2 H2 e2 W2 (x2 : Ex B1 B2) => h1 σ2 B2 H2 e2 W2 (e1.trans x2)
    have g2 := fun v B2 H2 d2 W2 (x2 : Ex B1 B2) => h2 v B2 H2 d2 W2 (e1.trans x2)
    have g3 := fun σ2 B2 H2 e2 W2 (x2 : Ex B1 B2) => h3 σ2 B2 H2 e2 W2 (e1.trans x2)
    have g4 := fun σ2 B2 H2 e2 W2 (x2 : Ex B1 B2) => h4 σ2 B2 H2 e2 W2 (e1.trans x2)
    cases c with
    | true => exact (iteT ((show WS K ts e W1 E from q1) Dn B1 σ H1 s1 (r.mono e1) g1 g2 g3 g4) : if true = true then _ else tu Dn σ H1)
    | false => exact (iteF ((show WS K tu e W1 E from q1) Dn B1 σ H1 s1 (r.mono e1) g1 g2 g3 g4) : if false = true then ts Dn σ H1 else _)
theorem ws_aug {ti : TIp} (h : e[i]? = some (some x)) (q : WE K te e W fun y W1 => RD K ti x y W1 fun z W2 => E.nx (e.set i (some z)) W2) : WS K (tAug i te ti) e W E := fun Dn B σ H s r h1 h2 h3 h4 => by
  obtain ⟨v, g1, g2⟩ := r.at' i x h
  exact ⟨v, g1, q B σ H _ s r fun w B1 H1 d W1 e1 s1 r1 q1 => q1 B1 H1 v w _ s1 (g2.mono e1) r1 fun u B2 H2 d2 W2 e2 s2 r2 q2 => h1 _ B2 H2 _ W2 (e1.trans e2) s2 ((r.mono (e1.trans e2)).set r2) q2⟩
theorem d_ip {f : Int → Int → Int} {a b : Int} (q : Q (.raw (.int (f a b))) W) : RD K (ipI f) (.raw (.int a)) (.raw (.int b)) W Q := rd_raw (fun _ _ => w_ip) q
theorem ws_par {i j : Nat} (q : WA K tl e W fun ds W1 => ∃ x y, ds = [x, y] ∧ E.nx ((e.set i (some x)).set j (some y)) W1) : WS K (tPar i j tl) e W E := fun Dn B σ H s r h1 h2 h3 h4 =>
  q B σ H _ s r fun vs B1 H1 ds W1 e1 s1 r1 q1 => by
    obtain ⟨x, y, rfl, q1⟩ := q1
    cases r1 with
    | cons r1 r2 =>
      cases r2 with
      | cons r2 r3 =>
        cases r3
        exact ⟨_, _, rfl, h1 _ B1 H1 _ W1 e1 s1 (((r.mono e1).set r1).set r2) q1⟩
def startD (N : List Str) (ds : List D) : Env := ds.map some ++ List.replicate (N.length - ds.length) none
theorem start_r {B : Hp} {N : List Str} {vs : List V} {ds : List D} (h : Reps K B vs ds) : EnvR K B (L2.start N vs) (startD N ds) := by
  have hl := h.len
  refine ⟨by unfold L2.start startD; simp [hl], fun i d q => ?_⟩
  unfold startD at q
  by_cases z : i < ds.length
  · rw [List.getElem?_append_left (by simpa using z), List.getElem?_map] at q
    obtain ⟨d', h1, h2⟩ := Option.map_eq_some_iff.mp q
    cases h2
    obtain ⟨v, h3, h4⟩ := h.get h1
    refine ⟨v, ?_, h4⟩
    unfold L2.start
    rw [List.getElem?_append_left (by rw [List.length_map, hl]; exact z), List.getElem?_map, h3]; rfl
  · rw [List.getElem?_append_right (by simpa using z)] at q
    have := List.mem_of_getElem? q
    rw [List.mem_replicate] at this
    cases this.2
theorem lift_pure {p : PF} {t : TS} {N : List Str} {vs : List V} {H : Hp} {Qv : VK} {Ex : XK} (h : lift K p vs H Qv Ex) (g : ∀ ds W Q, p ds W Q → WS K t (startD N ds) W ⟨fun _ W' => Q .non W', Q, fun _ _ => False, fun _ _ => False⟩) :
    t { nx := fun _ H' => Qv .non H', rt := Qv } (L2.start N vs) H := by
  obtain ⟨B, W, ds, Q0, s, r, hp, k⟩ := h
  exact g ds W Q0 hp { nx := fun _ H' => Qv .non H', rt := Qv } B (L2.start N vs) H s (start_r r) (fun σ' B' H' e' W' x s' _ q => k .non B' H' .non W' x s' (.raw _) q) (fun v B' H' d W' x s' r' q => k v B' H' d W' x s' r' q) (fun _ _ _ _ _ _ _ _ q => q.elim) (fun _ _ _ _ _ _ _ _ q => q.elim)
theorem lift_len {p : PF} {n : Nat} {vs : List V} {H : Hp} {Qv : VK} {Ex : XK} (g : ∀ ds W Q, p ds W Q → ds.length = n) (h : lift K p vs H Qv Ex) : vs.length = n := by
  obtain ⟨B, W, ds, Q0, s, r, hp, k⟩ := h
  rw [r.len]; exact g ds W Q0 hp
end
end
set_option Elab.async false
set_option linter.all false
set_option maxRecDepth 100000
set_option maxHeartbeats 2000000
set_option autoImplicit false
local macro_rules | `(tactic| walk_at "new") => `(tactic| (intro p hp; generalize hU : upd _ p _ = H'; have e1 := new_ex hp hU; have e2 := new_at hU; clear hU))
local macro_rules | `(tactic| walk_at "set") => `(tactic| ((try simp only [List.set_cons_succ, List.set_cons_zero]); rfl))
local macro_rules | `(tactic| walk_at "step") => `(tactic| first
  | with_reducible refine' w_seq ?_
  | with_reducible refine' w_op ?_
  | ((with_reducible refine' w_var ?h ?_); (case h => rfl))
  | with_reducible refine' w_c ?_
  | with_reducible refine' w_i0 ?_
  | with_reducible refine' w_cons ?_
  | with_reducible refine' w_nil ?_
  | with_reducible refine' w_asg ?_
  | ((with_reducible refine' w_gn ?e ?_); (case e => walk_at "set"))
  | with_reducible refine' w_ifS ?_
  | with_reducible refine' w_test ?_
  | with_reducible refine' w_tB ?_
  | with_reducible refine' w_bl ?_
  | with_reducible refine' w_int ?_
  | with_reducible refine' w_ref ?_
  | with_reducible refine' w_str ?_
  | with_reducible refine' w_eqI ?_
  | with_reducible refine' w_neI ?_
  | with_reducible refine' w_eqS ?_
  | with_reducible refine' w_neS ?_
  | with_reducible refine' w_ret ?_
  | with_reducible refine' w_for ?_
  | with_reducible refine' w_tFld ?_
  | ((with_reducible refine' w_fld ?h ?c ?n ?l ?_); (case h => walk_at "hk"); (case c => assumption); (case n => assumption); (case l => rfl))
  | with_reducible refine' w_sFld ?_
  | ((with_reducible refine' w_rsFld ?h ?c ?n ?l ?e ?_); (case h => walk_at "hk"); (case c => assumption); (case n => assumption); (case e => walk_at "putf"); (case l => (simp only [List.length_cons, List.length_nil]; omega)))
  | with_reducible refine' w_tDGet ?_
  | with_reducible refine' w_tDIn ?_
  | with_reducible refine' w_tDNotIn ?_
  | ((with_reducible refine' w_dinI ?h ?_); (case h => walk_at "hk"))
  | with_reducible refine' w_sDPut ?_
  | with_reducible refine' w_bm ?_
  | with_reducible refine' w_bm0 ?_
  | ((with_reducible refine' w_tyL ?h ?_); (case h => walk_at "sq"))
  | with_reducible refine' w_iRev ?_
  | ((with_reducible refine' w_rev1 ?h ?_); (case h => walk_at "sq"))
  | with_reducible refine' w_iItems ?_
  | with_reducible refine' w_iKeys ?_
  | with_reducible refine' w_iRng3 ?_
  | with_reducible refine' w_iZip ?_
  | with_reducible refine' w_gCons ?_
  | with_reducible refine' w_gNil ?_
  | ((with_reducible refine' w_gTup ?h ?l ?_); (case h => walk_at "st"); (case l => rfl))
  | with_reducible refine' w_m1 ?_
  | with_reducible refine' w_isS ?_
  | with_reducible refine' w_lc ?_
  | with_reducible refine' w_iList ?_
  | with_reducible refine' w_iTup ?_
  | with_reducible refine' w_iStr ?_
  | with_reducible refine' w_iRng1 ?_
  | with_reducible refine' w_iRng2 ?_
  | with_reducible refine' w_v1I ?_
  | with_reducible refine' w_v2I ?_
  | with_reducible refine' w_next ?_
  | with_reducible refine' w_call ?_
  | with_reducible refine' w_cb ?_
  | with_reducible refine' w_and ?_
  | with_reducible refine' w_or ?_
  | with_reducible refine' w_not ?_
  | with_reducible refine' w_andV ?_
  | with_reducible refine' w_orV ?_
  | with_reducible refine' w_notV ?_
  | with_reducible refine' w_ifE ?_
  | with_reducible refine' w_drop ?_
  | with_reducible refine' w_un ?_
  | with_reducible refine' w_u ?_
  | with_reducible refine' w_isNN ?_
  | with_reducible refine' w_isNI ?_
  | with_reducible refine' w_isNS ?_
  | with_reducible refine' w_isNR ?_
  | with_reducible refine' w_notNN ?_
  | with_reducible refine' w_notNI ?_
  | with_reducible refine' w_notNS ?_
  | with_reducible refine' w_notNR ?_
  | with_reducible refine' w_int1 ?_
  | with_reducible refine' w_int1b ?_
  | with_reducible refine' w_tup ?_
  | with_reducible refine' w_lst ?_
  | with_reducible refine' w_dnew ?_
  | with_reducible refine' w_sl ?_
  | with_reducible refine' w_noPart ?_
  | with_reducible refine' w_part ?_
  | with_reducible refine' w_retN ?_
  | with_reducible refine' w_brk ?_
  | with_reducible refine' w_cont ?_
  | with_reducible refine' w_chain ?_
  | with_reducible refine' w_lt ?_
  | with_reducible refine' w_le ?_
  | with_reducible refine' w_gt ?_
  | with_reducible refine' w_ge ?_
  | with_reducible refine' w_ltS ?_
  | with_reducible refine' w_leS ?_
  | with_reducible refine' w_gtS ?_
  | with_reducible refine' w_geS ?_
  | ((with_reducible refine' w_addS ?h ?_); (case h => walk_at "small"))
  | with_reducible refine' w_inS ?_
  | with_reducible refine' w_ninS ?_
  | with_reducible refine' w_par ?_
  | with_reducible refine' w_v2 ?_
  | with_reducible refine' w_max2 ?_
  | with_reducible refine' w_min2 ?_
  | with_reducible refine' w_tru ?_
  | with_reducible refine' w_meth ?_
  | ((with_reducible refine' w_meth1 ?h ?l ?_); (case h => walk_at "hk"); (case l => rfl))
  | with_reducible refine' w_make ?_
  | ((with_reducible refine' w_isiI ?h ?_); (case h => walk_at "kit"))
  | ((with_reducible refine' w_isiB ?h ?_); (case h => walk_at "kit"))
  | ((with_reducible refine' w_isiN ?h ?_); (case h => walk_at "kit"))
  | ((with_reducible refine' w_isiS ?h ?_); (case h => walk_at "kit"))
  | ((with_reducible refine' w_isiSL ?h ?e ?_); (case h => walk_at "sq"); (case e => walk_at "kit"))
  | ((with_reducible refine' w_isiST ?h ?e ?_); (case h => walk_at "st"); (case e => walk_at "kit"))
  | ((with_reducible refine' w_i ?h ?_); (case h => walk_at "sc"))
  | with_reducible refine' w_ttL ?_
  | with_reducible refine' w_ffL ?_
  | ((with_reducible refine' w_tt ?h ?_); (case h => first | exact dB_t (by decide) | exact nB_t (by decide) | decide))
  | ((with_reducible refine' w_ff ?h ?_); (case h => first | exact dB_f (by decide) | exact nB_f (by decide) | decide))
  | ((with_reducible refine' w_lenS ?h ?_); (case h => walk_at "sq"))
  | ((with_reducible refine' w_lenT ?h ?_); (case h => walk_at "st"))
  | ((with_reducible refine' w_slL ?h ?_); (case h => walk_at "sq"))
  | ((with_reducible refine' w_aug ?h ?_); (case h => rfl))
  | with_reducible refine' w_ip ?_
  | ((with_reducible refine' w_cat ?h1 ?h2 ?h3 ?_); (case h1 => walk_at "hk"); (case h2 => walk_at "hk"); (case h3 => walk_at "small"))
  | ((with_reducible refine' w_ixL ?h1 ?h2 ?_); (case h1 => walk_at "sq"); (case h2 => rfl))
  | ((with_reducible refine' w_ixT ?h1 ?h2 ?_); (case h1 => walk_at "st"); (case h2 => rfl))
  | ((with_reducible refine' w_lenStr ?h ?_); (case h => walk_at "small"))
  | ((with_reducible refine' w_slS ?h ?_); (case h => walk_at "small"))
  | ((with_reducible refine' w_sz ?h ?_); (case h => walk_at "small")))
local macro_rules | `(tactic| walk_at "goN") => `(tactic| (repeat (first | walk_at "step" | walk_at "callx" | ((with_reducible show ∀ p, _ = none → _); walk_at "new"))))
local macro_rules | `(tactic| walk_at "sub") => `(tactic| first | with_reducible assumption | exact Sub.refl _ | ((with_reducible refine' Sub.set ?h1); (case h1 => walk_at "sub")) | ((with_reducible refine' Sub.new ?h1 ?h2); (case h2 => walk_at "wn"); (case h1 => walk_at "sub")))
local macro_rules | `(tactic| walk_at "mgo") => `(tactic| (repeat (first | walk_at "mst" | walk_at "callm" | with_reducible refine' we_call ?_)))
section
open PySem L2
def RM (K : PySem.W.Frag) (r : V → List V → Hp → VK → Prop) (x : D) (xs : List D) (W : Wd) (Q : KD) : Prop :=
  ∀ (B H : Hp) (v : V) (vs : List V) (k : VK), Sta K B W H → Rep K B v x → Reps K B vs xs → (∀ v B' H' d W', Ex B B' → Sta K B' W' H' → Rep K B' v d → Q d W' → k v H') → r v vs H k
def RS (K : PySem.W.Frag) (r : V → Option Int → Option Int → Hp → VK → Prop) (x : D) (lo hi : Option Int) (W : Wd) (Q : KD) : Prop :=
  ∀ (B H : Hp) (v : V) (k : VK), Sta K B W H → Rep K B v x → (∀ v B' H' d W', Ex B B' → Sta K B' W' H' → Rep K B' v d → Q d W' → k v H') → r v lo hi H k
def RSt (K : PySem.W.Frag) (r : TSet) (o i x : D) (W : Wd) (Q : Wd → Prop) : Prop :=
  ∀ (B H : Hp) (u v w : V) (k : Hp → Prop), Sta K B W H → Rep K B u o → Rep K B v i → Rep K B w x → (∀ B' H' W', Ex B B' → Sta K B' W' H' → Q W' → k H') → r u v w H k
def rCatQ (K : PySem.W.Frag) : R2 := fun x y H Q => ∃ l b xs zs, x = .ref l ∧ y = .ref b ∧ SqL K H l xs ∧ SqL K H b zs ∧ xs.length + zs.length ≤ sizeLine ∧ ∀ p, H p = none → Q (.ref p) (upd H p (.lst (xs ++ zs)))
abbrev aCatQ (K : PySem.W.Frag) := tOp (rCatQ K)
section
open PySem.Spec PyProof.Rows
theorem op_catQ {X : Cx} : OpR X (binaryOp .Add) (rCatQ X.K) := by
  intro pins s σ H x y v u Q I rx ry h
  obtain ⟨l, b, xs, zs, rfl, rfl, hx, hz, hsz, q⟩ := h
  cases rx
  cases ry
  obtain ⟨its, r, pl, _⟩ := I.list hx
  obtain ⟨its2, r2, pl2, _⟩ := I.list hz
  have n1 := r.length
  have n2 := r2.length
  obtain ⟨⟨c, dd, da, sl⟩, n, e, hc, hd, hda⟩ := pl
  obtain ⟨⟨c2, dd2, da2, sl2⟩, m, e2, hc2, hd2, hda2⟩ := pl2
  simp only at hc hd hda hc2 hd2 hda2
  subst hc hd hda hc2 hd2 hda2
  refine concat_meets ⟨_, e, rfl⟩ ⟨_, e2, rfl⟩ noFill_list_add seq_list_add PySem.F.slot_list_add PySem.F.entry_list_add (PySem.F.args_list_add_2 _ _)
    (list_addW l b its.toArray its2.toArray n m none none sl sl2 (by rw [List.size_toArray, List.size_toArray]; omega)) ⟨e, e2, ?_⟩
  have ea : its.toArray ++ its2.toArray = (its ++ its2).toArray := by simp
  rw [ea]
  exact ⟨.ref _, _, I.lnew (t' := s.toks) (r.append r2) (by rw [List.length_append]; omega), rfl, q _ I.fresh⟩
end
inductive SeqD (W : Wd) : D → List D → Prop
  | lst (ds : List D) : SeqD W (.lst ds) ds
  | own {a : Addr} {ds : List D} (h : W a = some (.lst ds)) : SeqD W (.raw (.ref a)) ds
  | scr (ns : List Int) : SeqD W (.scr ns) (ns.map D.int)
inductive CatD (W : Wd) : D → List D → Prop
  | lst (ds : List D) : CatD W (.lst ds) ds
  | own {a : Addr} {ds : List D} (h : W a = some (.lst ds)) : CatD W (.raw (.ref a)) ds
theorem SeqD.er {W W' : Wd} (m : Sub W W') {d : D} {ds : List D} : SeqD W d ds → SeqD W' d ds
  | .lst _ => .lst _
  | .own h => .own (m _ _ h)
  | .scr _ => .scr _
section
variable {K : PySem.W.Frag} {e : Env} {W : Wd} {te ta tb tx ty : TE} {Q : KD} {ts tu tw : TS} {E : DE} {x y z d : D} {i : Nat} {tr tl : TA} {B H : Hp} {v : V} {ds es : List D}
theorem seq_sem (s : Sta K B W H) (r : Rep K B v d) (q : SeqD W d ds) : ∃ a xs, v = .ref a ∧ SqL K H a xs ∧ Reps K B xs ds := by
  cases q with
  | lst ds => cases r with | lst h hs => exact ⟨_, _, rfl, SqL.of (s.ex _ _ h), hs⟩
  | own h =>
    cases r
    obtain ⟨xs, h1, h2⟩ := s.lst h
    exact ⟨_, xs, rfl, SqL.of h1, h2⟩
  | scr ns =>
    cases r with
    | scr h =>
      refine ⟨_, _, rfl, ex_sq s.ex h, ?_⟩
      have := Reps.raws (K := K) (S := B) (ns.map V.int)
      rwa [List.map_map] at this
theorem cat_sem (s : Sta K B W H) (r : Rep K B v d) (q : CatD W d ds) : ∃ a xs, v = .ref a ∧ H a = some (.lst xs) ∧ Reps K B xs ds := by
  cases q with
  | lst ds => cases r with | lst h hs => exact ⟨_, _, rfl, s.ex _ _ h, hs⟩
  | own h =>
    cases r
    obtain ⟨xs, h1, h2⟩ := s.lst h
    exact ⟨_, xs, rfl, h1, h2⟩
theorem at_sem {xs : List V} {j : Int} (r : Reps K B xs ds) (h : atI ds j = some d) : ∃ v, atI xs j = some v ∧ Rep K B v d := by
  unfold atI at h ⊢
  rw [r.len]
  obtain ⟨n, h1, h2⟩ := Option.bind_eq_some_iff.mp h
  obtain ⟨v, h3, h4⟩ := r.get h2
  exact ⟨v, by rw [h1]; exact h3, h4⟩
theorem d_ixL {j : Int} (h : SeqD W x ds) (a : atI ds j = some d) (q : Q d W) : RD K (rIxL K) x (.raw (.int j)) W Q := fun B H v w k s r1 r2 hk => by
  cases r2
  obtain ⟨p, xs, rfl, h1, h2⟩ := seq_sem s r1 h
  obtain ⟨u, h3, h4⟩ := at_sem h2 a
  exact w_ixL h1 h3 (hk u B H d W (Evl.Ex.refl _) s h4 q)
theorem d_ixT {j : Int} (a : atI ds j = some d) (q : Q d W) : RD K (rIxT K) (.tup ds) (.raw (.int j)) W Q := fun B H v w k s r1 r2 hk => by
  cases r2
  cases r1 with
  | tup h hs =>
    obtain ⟨u, h3, h4⟩ := at_sem hs a
    exact w_ixT (ex_st s.ex h) h3 (hk u B H d W (Evl.Ex.refl _) s h4 q)
theorem d_ixAL {j : Int} (h : SeqD W x ds) (a : atI ds j = some d) (q : Q d W) : RD K (rIx K) x (.raw (.int j)) W Q := fun B H v w k s r1 r2 hk => .inl (d_ixL h a q B H v w k s r1 r2 hk)
theorem d_ixAT {j : Int} (a : atI ds j = some d) (q : Q d W) : RD K (rIx K) (.tup ds) (.raw (.int j)) W Q := fun B H v w k s r1 r2 hk => .inr (.inl (d_ixT a q B H v w k s r1 r2 hk))
theorem d_ixS {z : Str} {j : Int} {c : Nat} (h : z.length ≤ sizeLine) (a : atI z.cps.toList j = some c) (q : Q (.raw (.str ⟨#[c]⟩)) W) : RD K rIxS (.raw (.str z)) (.raw (.int j)) W Q := rd_raw (fun _ _ => w_ixS h a) q
theorem d_lenL (h : SeqD W x ds) (q : Q (.raw (.int ds.length)) W) : RC K (Evl.rLenS K) [x] W Q := fun B H vs k s r hk => by
  cases r with
  | cons r1 r2 =>
    cases r2
    obtain ⟨p, xs, rfl, h1, h2⟩ := seq_sem s r1 h
    exact w_lenS h1 (by rw [h2.len]; exact hk _ B H _ W (Evl.Ex.refl _) s (.raw _) q)
theorem d_lenT (q : Q (.raw (.int ds.length)) W) : RC K (Evl.rLenS K) [.tup ds] W Q := fun B H vs k s r hk => by
  cases r with
  | cons r1 r2 =>
    cases r2
    cases r1 with
    | tup h hs => exact w_lenT (ex_st s.ex h) (by rw [hs.len]; exact hk _ B H _ W (Evl.Ex.refl _) s (.raw _) q)
theorem d_lenStr {z : Str} (h : z.length ≤ sizeLine) (q : Q (.raw (.int (z.length : Nat))) W) : RC K rLenStr [.raw (.str z)] W Q := rc_raw1 (fun _ _ => w_lenStr h) q
theorem d_int1 {a : Int} (q : Q (.raw (.int a)) W) : RC K rInt1 [.raw (.int a)] W Q := rc_raw1 (fun _ _ => w_int1) q
theorem d_int1b {b : Bool} (q : Q (.raw (.int (if b then 1 else 0))) W) : RC K rInt1 [.raw (.bl b)] W Q := rc_raw1 (fun _ _ => w_int1b) q
theorem d_max2 {a b : Int} (q : Q (.raw (.int (if b > a then b else a))) W) : RC K Evl.rMax2 [.raw (.int a), .raw (.int b)] W Q := rc_raw2 (fun _ _ => w_max2) q
theorem d_min2 {a b : Int} (q : Q (.raw (.int (if b < a then b else a))) W) : RC K rMin2 [.raw (.int a), .raw (.int b)] W Q := rc_raw2 (fun _ _ => w_min2) q
def cutD {α : Type} (xs : List α) (lo hi : Option Int) : List α := (xs.drop (HT.sIx xs.length 0 lo)).take (HT.sIx xs.length xs.length hi - HT.sIx xs.length 0 lo)
theorem cut_sem {xs : List V} {lo hi : Option Int} (r : Reps K B xs ds) : Reps K B (cutV xs lo hi) (cutD ds lo hi) := by
  unfold cutV cutD
  rw [r.len]
  exact (r.drop _).take _
theorem we_sl {r : V → Option Int → Option Int → Hp → VK → Prop} {to th : TO} (q : WE K te e W fun x W1 => WO K to e W1 fun l W2 => WO K th e W2 fun u W3 => RS K r x l u W3 Q) : WE K (tSl r te to th) e W Q := fun B σ H k s r hk =>
  q B σ H _ s r fun v B1 H1 d W1 e1 s1 r1 q1 => q1 B1 σ H1 _ s1 (r.mono e1) fun l B2 H2 W2 e2 s2 q2 => q2 B2 σ H2 _ s2 ((r.mono e1).mono e2) fun u B3 H3 W3 e3 s3 q3 => q3 B3 H3 v k s3 ((r1.mono e2).mono e3) fun v B4 H4 d4 W4 e4 => hk v B4 H4 d4 W4 (((e1.trans e2).trans e3).trans e4)
theorem wo_no {QO : Option Int → Wd → Prop} (q : QO none W) : WO K tNoPart e W QO := fun B σ H k s r hk => hk none B H W (Evl.Ex.refl _) s q
theorem wo_part {QO : Option Int → Wd → Prop} (q : WE K te e W fun x W1 => ∃ i, x = .raw (.int i) ∧ QO (some i) W1) : WO K (tPart te) e W QO := fun B σ H k s r hk =>
  q B σ H _ s r fun v B1 H1 d W1 e1 s1 r1 q1 => by
    obtain ⟨j, rfl, q1⟩ := q1
    cases r1
    exact ⟨j, rfl, hk _ B1 H1 W1 e1 s1 q1⟩
theorem wo_i {j : Int} {P : Int → Prop} (q : P j) : ∃ i, D.raw (.int j) = .raw (.int i) ∧ P i := ⟨j, rfl, q⟩
theorem d_slL {lo hi : Option Int} (h : SeqD W x ds) (q : ∀ p, W p = none → Q (.ptr p) (wset W p (.lst (cutD ds lo hi)))) : RS K (rSlL K) x lo hi W Q := fun B H v k s r1 hk => by
  obtain ⟨p, xs, rfl, h1, h2⟩ := seq_sem s r1 h
  exact w_slL h1 fun l hl => hk _ B _ _ _ (Evl.Ex.refl _) (s.new hl (.lst (cut_sem h2))) (.raw _) (q l (s.nnone hl))
theorem d_slS {z : Str} {lo hi : Option Int} (h : z.length ≤ sizeLine) (q : Q (.raw (.str (cutS z lo hi))) W) : RS K rSlS (.raw (.str z)) lo hi W Q := fun B H v k s r1 hk => by
  cases r1
  exact w_slS h (hk _ B H _ W (Evl.Ex.refl _) s (.raw _) q)
theorem we_tup (q : WA K tl e W fun ds W1 => ds.length ≤ sizeLine ∧ Q (.tup ds) W1) : WE K (tTup tl) e W Q := fun B σ H k s r hk =>
  w_tup (q B σ H _ s r fun vs B1 H1 ds W1 e1 s1 r1 q1 => ⟨by rw [r1.len]; exact q1.1, fun p hp => hk _ _ _ _ _ (e1.trans (s1.newB hp).2) (s1.newB hp).1 (.tup (SqT.of upd_same) (r1.mono (s1.newB hp).2)) q1.2⟩)
theorem we_lst (q : WA K tl e W fun ds W1 => ds.length ≤ sizeLine ∧ ∀ p, W1 p = none → Q (.ptr p) (wset W1 p (.lst ds))) : WE K (tLst tl) e W Q := fun B σ H k s r hk =>
  w_lst (q B σ H _ s r fun vs B1 H1 ds W1 e1 s1 r1 q1 => ⟨by rw [r1.len]; exact q1.1, fun p hp => hk _ _ _ _ _ e1 (s1.new hp (.lst r1)) (.raw _) (q1.2 p (s1.nnone hp))⟩)
theorem d_sz {n : Nat} {P : Prop} (h : n ≤ sizeLine) (q : P) : n ≤ sizeLine ∧ P := ⟨h, q⟩
theorem d_cat (h1 : CatD W x ds) (h2 : CatD W y es) (hl : ds.length + es.length ≤ sizeLine) (q : ∀ p, W p = none → Q (.ptr p) (wset W p (.lst (ds ++ es)))) : RD K rCat x y W Q := fun B H v w k s r1 r2 hk => by
  obtain ⟨a, xs, rfl, g1, g2⟩ := cat_sem s r1 h1
  obtain ⟨b, ys, rfl, g3, g4⟩ := cat_sem s r2 h2
  exact w_cat g1 g3 (by rw [g2.len, g4.len]; exact hl) fun p hp => hk _ _ _ _ _ (Evl.Ex.refl _) (s.new hp (.lst (g2.app g4))) (.raw _) (q p (s.nnone hp))
theorem d_catQ (h1 : SeqD W x ds) (h2 : SeqD W y es) (hl : ds.length + es.length ≤ sizeLine) (q : ∀ p, W p = none → Q (.ptr p) (wset W p (.lst (ds ++ es)))) : RD K (rCatQ K) x y W Q := fun B H v w k s r1 r2 hk => by
  obtain ⟨a, xs, rfl, g1, g2⟩ := seq_sem s r1 h1
  obtain ⟨b, ys, rfl, g3, g4⟩ := seq_sem s r2 h2
  exact ⟨a, b, xs, ys, rfl, rfl, g1, g3, by rw [g2.len, g4.len]; exact hl, fun p hp => hk _ _ _ _ _ (Evl.Ex.refl _) (s.new hp (.lst (g2.app g4))) (.raw _) (q p (s.nnone hp))⟩
theorem d_catT (h : ds ≠ []) (hl : ds.length + es.length ≤ sizeLine) (q : Q (.tup (ds ++ es)) W) : RD K (rCatT K) (.tup ds) (.tup es) W Q := fun B H v w k s r1 r2 hk => by
  cases r1 with
  | tup g1 hs1 =>
    cases r2 with
    | tup g2 hs2 =>
      rename_i a xs b ys
      refine ⟨a, b, xs, ys, rfl, rfl, ex_st s.ex g1, ex_st s.ex g2, ?_, by rw [hs1.len, hs2.len]; exact hl, fun z => ?_, fun z p hp => ?_⟩
      · intro z; subst z; cases hs1; exact h rfl
      · subst z
        cases hs2
        rw [List.append_nil] at q
        exact hk _ B H _ W (Evl.Ex.refl _) s (.tup g1 hs1) q
      · exact hk _ _ _ _ _ (s.newB hp).2 (s.newB hp).1 (.tup (SqT.of upd_same) ((hs1.app hs2).mono (s.newB hp).2)) q
theorem d_list (h : SeqD W x ds) (q : ∀ p, W p = none → Q (.ptr p) (wset W p (.lst ds))) : RC K (rListOf K) [x] W Q := fun B H vs k s r hk => by
  cases r with
  | cons r1 r2 =>
    cases r2
    obtain ⟨a, xs, rfl, g1, g2⟩ := seq_sem s r1 h
    exact ⟨a, xs, rfl, .inl g1, fun p hp => hk _ _ _ _ _ (Evl.Ex.refl _) (s.new hp (.lst g2)) (.raw _) (q p (s.nnone hp))⟩
theorem d_listT (q : ∀ p, W p = none → Q (.ptr p) (wset W p (.lst ds))) : RC K (rListOf K) [.tup ds] W Q := fun B H vs k s r hk => by
  cases r with
  | cons r1 r2 =>
    cases r2
    cases r1 with
    | tup g hs => exact ⟨_, _, rfl, .inr (ex_st s.ex g), fun p hp => hk _ _ _ _ _ (Evl.Ex.refl _) (s.new hp (.lst hs)) (.raw _) (q p (s.nnone hp))⟩
theorem fz_new {p : Addr} (h : W p = none) (q : Q (.lst ds) W) : FzQ Q (.raw (.ref p)) (wset W p (.lst ds)) := .inr (.inl ⟨p, ds, rfl, ws_same, by rw [we_ws h]; exact q⟩)
theorem fz_newS {W' : Wd} {p : Addr} (m : Sub W W') (h : W' p = none) (q : Q (.lst ds) W) : FzQ (SubQ Q) (.raw (.ref p)) (wset W' p (.lst ds)) := .inr (.inl ⟨p, ds, rfl, ws_same, W, by rw [we_ws h]; exact Vs.of m, q⟩)
theorem fz_obj {p C : Addr} {fs : List (Str × D)} (h : W p = none) (q : Q (.obj C (fs.map (·.1)) (fs.map (·.2))) W) : FzQ Q (.raw (.ref p)) (wset W p (.ins C fs)) := .inr (.inr ⟨p, C, fs, rfl, ws_same, by rw [we_ws h]; exact q⟩)
theorem fz_id (q : Q d W) : FzQ Q d W := .inl q
theorem sub_q {W' : Wd} (h : Sub W' W) (q : Q d W') : SubQ Q d W := ⟨W', Vs.of h, q⟩
def tFz (te : TE) : TE := te
theorem d_inV {neg : Bool} {a : V} {l : List V} (h : SeqD W y (l.map D.raw) ∨ y = .tup (l.map D.raw)) (h1 : flatV a = true) (h2 : l.all flatV = true) (q : Q (.raw (.bl (if neg then !inV a l else inV a l))) W) : RD K (rIn K neg) (.raw a) y W Q := fun B H v w k s r1 r2 hk => by
  cases r1
  rcases h with h | rfl
  · obtain ⟨p, xs, rfl, g1, g2⟩ := seq_sem s r2 h
    have := g2.rawsI (f := fun x => x) rfl
    rw [List.map_id'] at this
    subst this
    exact ⟨p, _, rfl, .inl g1, h1, h2, hk _ B H _ W (Evl.Ex.refl _) s (.raw _) q⟩
  · cases r2 with
    | tup g1 g2 =>
      have := g2.rawsI (f := fun x => x) rfl
      rw [List.map_id'] at this
      subst this
      exact ⟨_, _, rfl, .inr (ex_st s.ex g1), h1, h2, hk _ B H _ W (Evl.Ex.refl _) s (.raw _) q⟩
theorem d_sum {ns : List Int} (h : SeqD W x (ns.map D.int)) (q : Q (.raw (.int ns.sum)) W) : RC K (rSum K) [x] W Q := fun B H vs k s r hk => by
  cases r with
  | cons r1 r2 =>
    cases r2
    obtain ⟨a, xs, rfl, g1, g2⟩ := seq_sem s r1 h
    rw [g2.rawsI (f := V.int) rfl] at g1
    exact ⟨a, ns, rfl, g1, hk _ B H _ W (Evl.Ex.refl _) s (.raw _) q⟩
theorem we_m1 {r : V → List V → Hp → VK → Prop} (q : WE K ta e W fun x W1 => (∃ a, x = .raw (.str a)) ∧ WE K te e W1 fun y W2 => RM K r x [y] W2 Q) : WE K (tM1 r ta te) e W Q := fun B σ H k s r hk =>
  q B σ H _ s r fun v B1 H1 d W1 e1 s1 r1 q1 => by
    obtain ⟨⟨a, rfl⟩, q1⟩ := q1
    cases r1
    refine ⟨⟨a, rfl⟩, q1 B1 σ H1 _ s1 (r.mono e1) fun w B2 H2 d2 W2 e2 s2 r2 q2 => q2 B2 H2 _ _ k s2 (.raw _) (.cons r2 .nil) fun v B3 H3 d3 W3 e3 => hk v B3 H3 d3 W3 ((e1.trans e2).trans e3)⟩
theorem d_isS {a : Str} {P : Prop} (q : P) : (∃ b, D.raw (.str a) = .raw (.str b)) ∧ P := ⟨⟨a, rfl⟩, q⟩
theorem d_find {a b : Str} (q : Q (.raw (.int (Txt.find a b))) W) : RM K rFindS (.raw (.str a)) [.raw (.str b)] W Q := fun B H v vs k s r1 r2 hk => by
  cases r1
  cases r2 with
  | cons r2 r3 => cases r3; cases r2; exact ⟨a, b, rfl, rfl, hk _ B H _ W (Evl.Ex.refl _) s (.raw _) q⟩
theorem we_bm {r : V → List V → Hp → VK → Prop} (q : WE K ta e W fun x W1 => (∃ ds, SeqD W1 x ds) ∧ WA K tl e W1 fun xs W2 => RM K r x xs W2 Q) : WE K (tBM K "list" r ta tl) e W Q := fun B σ H k s r hk =>
  q B σ H _ s r fun v B1 H1 d W1 e1 s1 r1 q1 => by
    obtain ⟨⟨ds, hd⟩, q1⟩ := q1
    obtain ⟨a, xs, rfl, g1, g2⟩ := seq_sem s1 r1 hd
    refine ⟨.inl ⟨rfl, xs, g1⟩, q1 B1 σ H1 _ s1 (r.mono e1) fun vs B2 H2 d2 W2 e2 s2 r2 q2 => q2 B2 H2 _ _ k s2 (r1.mono e2) r2 fun v B3 H3 d3 W3 e3 => hk v B3 H3 d3 W3 ((e1.trans e2).trans e3)⟩
theorem we_bm0 {r : V → List V → Hp → VK → Prop} (q : WE K ta e W fun x W1 => (∃ ds, SeqD W1 x ds) ∧ RM K r x [] W1 Q) : WE K (tBM0 K "list" r ta) e W Q := fun B σ H k s r hk =>
  q B σ H _ s r fun v B1 H1 d W1 e1 s1 r1 q1 => by
    obtain ⟨⟨ds, hd⟩, q1⟩ := q1
    obtain ⟨a, xs, rfl, g1, g2⟩ := seq_sem s1 r1 hd
    exact ⟨.inl ⟨rfl, xs, g1⟩, q1 B1 H1 _ _ k s1 r1 .nil fun v B3 H3 d3 W3 e3 => hk v B3 H3 d3 W3 (e1.trans e3)⟩
theorem d_seq {P : Prop} (h : SeqD W x ds) (q : P) : (∃ ds, SeqD W x ds) ∧ P := ⟨⟨ds, h⟩, q⟩
variable {a : Addr}
theorem d_app (h : W a = some (.lst ds)) (hl : ds.length < sizeLine) (q : Q (.raw .non) (wset W a (.lst (ds ++ [y])))) : RM K rAppend (.raw (.ref a)) [y] W Q := fun B H v vs k s r1 r2 hk => by
  cases r1
  cases r2 with
  | cons r2 r3 =>
    cases r3
    obtain ⟨xs, g1, g2⟩ := s.lst h
    exact w_app g1 (by rw [g2.len]; exact hl) (hk _ B _ _ _ (Evl.Ex.refl _) (s.set h (.lst (g2.app (.cons r2 .nil)))) (.raw _) q)
theorem d_ext (h : W a = some (.lst ds)) (h2 : CatD W y es) (hl : ds.length + es.length ≤ sizeLine) (q : Q (.raw .non) (wset W a (.lst (ds ++ es)))) : RM K rExtend (.raw (.ref a)) [y] W Q := fun B H v vs k s r1 r2 hk => by
  cases r1
  cases r2 with
  | cons r2 r3 =>
    cases r3
    obtain ⟨xs, g1, g2⟩ := s.lst h
    obtain ⟨b, ys, rfl, g3, g4⟩ := cat_sem s r2 h2
    exact w_ext g1 g3 (by rw [g2.len, g4.len]; exact hl) (hk _ B _ _ _ (Evl.Ex.refl _) (s.set h (.lst (g2.app g4))) (.raw _) q)
theorem d_pop (h : W a = some (.lst (ds ++ [y]))) (q : Q y (wset W a (.lst ds))) : RM K rPop (.raw (.ref a)) [] W Q := fun B H v vs k s r1 r2 hk => by
  cases r1; cases r2
  obtain ⟨xs, g1, g2⟩ := s.lst h
  have hl := g2.len
  obtain ⟨w, g3, g4⟩ := g2.get (i := ds.length) (d := y) (by simp)
  have hx : xs = xs.take ds.length ++ [w] := by
    have : xs = xs.take ds.length ++ xs.drop ds.length := (List.take_append_drop _ _).symm
    rw [List.length_append, List.length_singleton] at hl
    rw [this, List.drop_eq_getElem_cons (by omega), List.drop_of_length_le (by omega)]
    congr 1
    · rw [List.take_append_of_le_length (by simp; omega), List.take_take, Nat.min_self]
    · rw [List.getElem?_eq_getElem (by omega)] at g3; cases g3; rfl
  have g5 := g2.take ds.length
  rw [List.take_left' rfl] at g5
  rw [hx] at g1
  exact w_pop g1 (hk _ B _ _ _ (Evl.Ex.refl _) (s.set h (.lst g5)) g4 q)
theorem d_clr (h : W a = some (.lst ds)) (q : Q (.raw .non) (wset W a (.lst []))) : RM K rClear (.raw (.ref a)) [] W Q := fun B H v vs k s r1 r2 hk => by
  cases r1; cases r2
  obtain ⟨xs, g1, g2⟩ := s.lst h
  exact w_clr g1 (hk _ B _ _ _ (Evl.Ex.refl _) (s.set h (.lst .nil)) (.raw _) q)
theorem reps_rev {xs : List V} (r : Reps K B xs ds) : Reps K B xs.reverse ds.reverse := by
  induction xs generalizing ds with
  | nil => cases r; exact .nil
  | cons x xs ih => cases r with | cons h t => rw [List.reverse_cons, List.reverse_cons]; exact (ih t).app (.cons h .nil)
theorem d_rev (h : W a = some (.lst ds)) (q : Q (.raw .non) (wset W a (.lst ds.reverse))) : RM K rReverse (.raw (.ref a)) [] W Q := fun B H v vs k s r1 r2 hk => by
  cases r1; cases r2
  obtain ⟨xs, g1, g2⟩ := s.lst h
  exact ⟨a, xs, rfl, rfl, g1, hk _ B _ _ _ (Evl.Ex.refl _) (s.set h (.lst (reps_rev g2))) (.raw _) q⟩
theorem wg_sub {to ti : TE} {t : TSet} {QE : Env → Wd → Prop} (q : WE K to e W fun o W1 => WE K ti e W1 fun i W2 => RSt K t o i x W2 fun W3 => QE e W3) : WG K (gSub to ti t) x e W QE := fun B σ H v k s r r1 hk =>
  q B σ H _ s r fun o B1 H1 d1 W1 e1 s1 g1 q1 => q1 B1 σ H1 _ s1 (r.mono e1) fun i B2 H2 d2 W2 e2 s2 g2 q2 => q2 B2 H2 o i v _ s2 (g1.mono e2) g2 (r1.mono (e1.trans e2)) fun B3 H3 W3 e3 s3 q3 => hk σ B3 H3 e W3 ((e1.trans e2).trans e3) s3 (r.mono ((e1.trans e2).trans e3)) q3
theorem d_setL {j : Int} {n : Nat} {QW : Wd → Prop} (h : W a = some (.lst ds)) (hj : ixN ds.length j = some n) (q : QW (wset W a (.lst (ds.set n x)))) : RSt K rSetL (.raw (.ref a)) (.raw (.int j)) x W QW := fun B H u v w k s r1 r2 r3 hk => by
  cases r1; cases r2
  obtain ⟨xs, g1, g2⟩ := s.lst h
  exact ⟨a, xs, j, n, rfl, rfl, g1, by rw [g2.len]; exact hj, hk B _ _ (Evl.Ex.refl _) (s.set h (.lst (g2.set r3 n))) q⟩
inductive FldD (W : Wd) (f : Str) : D → Addr → D → Prop
  | own {a C : Addr} {fs : List (Str × D)} {d : D} (h : W a = some (.ins C fs)) (l : fs.lookup f = some d) : FldD W f (.raw (.ref a)) C d
  | obj {C : Addr} {ns : List Str} {ds : List D} {d : D} (l : (ns.zip ds).lookup f = some d) : FldD W f (.obj C ns ds) C d
theorem zip_look {f : Str} {ns : List Str} {xs : List V} (h : Reps K B xs ds) (l : (ns.zip ds).lookup f = some d) : ∃ v, (ns.zip xs).lookup f = some v ∧ Rep K B v d := by
  induction ns generalizing xs ds with
  | nil => cases l
  | cons n ns ih =>
    cases h with
    | nil => cases l
    | cons h t =>
      rw [List.zip_cons_cons, List.lookup_cons] at l ⊢
      split at l
      · cases l; exact ⟨_, rfl, h⟩
      · exact ih t l
theorem we_fld {f : Str} (q : WE K ta e W fun x W1 => ∃ C d, FldD W1 f x C d ∧ Cls K C ∧ NoAttr K C f ∧ Q d W1) : WE K (tFld K ta f) e W Q := fun B σ H k s r hk =>
  q B σ H _ s r fun v B1 H1 d W1 e1 s1 r1 q1 => by
    obtain ⟨C, d2, hf, hc, hn, q1⟩ := q1
    cases hf with
    | own h l =>
      cases r1
      obtain ⟨dx, fs', g1, g2⟩ := s1.ins h
      obtain ⟨u, g3, g4⟩ := g2.look l
      exact ⟨_, C, dx, fs', u, rfl, g1, hc, hn, g3, hk u B1 H1 d2 W1 e1 s1 g4 q1⟩
    | obj l =>
      cases r1 with
      | obj h hl hs =>
        obtain ⟨u, g3, g4⟩ := zip_look hs l
        exact ⟨_, C, _, _, u, rfl, s1.ex _ _ h, hc, hn, g3, hk u B1 H1 d2 W1 e1 s1 g4 q1⟩
theorem d_fldW {f : Str} {C : Addr} {fs : List (Str × D)} {P : D → Prop} (h : W a = some (.ins C fs)) (c : Cls K C) (n : NoAttr K C f) (l : fs.lookup f = some d) (q : P d) : ∃ C d, FldD W f (.raw (.ref a)) C d ∧ Cls K C ∧ NoAttr K C f ∧ P d := ⟨C, d, .own h l, c, n, q⟩
theorem d_fldO {f : Str} {C : Addr} {ns : List Str} {P : D → Prop} (c : Cls K C) (n : NoAttr K C f) (l : (ns.zip ds).lookup f = some d) (q : P d) : ∃ C' d, FldD W f (.obj C ns ds) C' d ∧ Cls K C' ∧ NoAttr K C' f ∧ P d := ⟨C, d, .obj l, c, n, q⟩
def putD (f : Str) (v : D) : List (Str × D) → List (Str × D)
  | [] => [(f, v)]
  | (g, x) :: r => if g = f then (g, v) :: r else (g, x) :: putD f v r
theorem put_sem {f : Str} {r : List (Str × V)} {q : List (Str × D)} (h : RepP K B r q) {v : V} {d : D} (g : Rep K B v d) : RepP K B (putF f v r) (putD f d q) := by
  induction h with
  | nil => exact .cons g .nil
  | cons h t ih =>
    rename_i k w dd r q
    show RepP K B (if k = f then _ else _) (if k = f then _ else _)
    split
    · exact .cons g t
    · exact .cons h ih
theorem ws_fld {f : Str} {tv : TE} (q : WE K tv e W fun y W1 => WE K ta e W1 fun x W2 => ∃ a C fs, x = .ptr a ∧ W2 a = some (.ins C fs) ∧ Cls K C ∧ NoAttr K C f ∧ fs.length < 1000 ∧ E.nx e (wset W2 a (.ins C (putD f y fs)))) : WS K (sFld K ta tv f) e W E := fun Dn B σ H s r h1 h2 h3 h4 =>
  q B σ H _ s r fun v B1 H1 d W1 e1 s1 r1 q1 => q1 B1 σ H1 _ s1 (r.mono e1) fun w B2 H2 d2 W2 e2 s2 r2 q2 => by
    obtain ⟨a, C, fs, rfl, g1, hc, hn, hl, q2⟩ := q2
    cases r2
    obtain ⟨dx, fs', g2, g3⟩ := s2.ins g1
    exact ⟨a, C, dx, fs', rfl, g2, hc, hn, by rw [g3.len]; exact hl, h1 σ B2 _ e _ (e1.trans e2) (s2.set g1 (.ins (put_sem g3 (r1.mono e2)))) (r.mono (e1.trans e2)) q2⟩
theorem d_sfld {f : Str} {C : Addr} {fs fs' : List (Str × D)} {P : Wd → Prop} (h : W a = some (.ins C fs)) (c : Cls K C) (n : NoAttr K C f) (l : fs.length < 1000) (he : putD f y fs = fs') (q : P (wset W a (.ins C fs'))) :
    ∃ a' C fs, D.raw (.ref a) = .ptr a' ∧ W a' = some (.ins C fs) ∧ Cls K C ∧ NoAttr K C f ∧ fs.length < 1000 ∧ P (wset W a' (.ins C (putD f y fs))) := ⟨a, C, fs, rfl, h, c, n, l, he ▸ q⟩
section
variable {κ : Type} [DecidableEq κ]
def valD (kvs : List (κ × D)) (k : κ) : Option D := (kvs.find? fun kv => decide (kv.1 = k)).map (·.2)
def putKD (kvs : List (κ × D)) (k : κ) (v : D) : List (κ × D) :=
  if (kvs.any fun kv => decide (kv.1 = k)) = true then kvs.map (fun kv => if kv.1 = k then (kv.1, v) else kv) else kvs ++ [(k, v)]
theorem val_sem {r : List (κ × V)} {q : List (κ × D)} (h : RepP K B r q) (k : κ) : (valD q k = none ∧ valV r k = none) ∨ ∃ v d, valD q k = some d ∧ valV r k = some v ∧ Rep K B v d := by
  induction h with
  | nil => exact .inl ⟨rfl, rfl⟩
  | cons h t ih =>
    rename_i k' v d r q
    unfold valD valV at *
    rw [List.find?_cons, List.find?_cons]
    by_cases z : k' = k
    · simp only [z, decide_true]; exact .inr ⟨v, d, rfl, rfl, h⟩
    · simp only [z, decide_false]; exact ih
theorem any_sem {r : List (κ × V)} {q : List (κ × D)} (h : RepP K B r q) (k : κ) : (q.any fun kv => decide (kv.1 = k)) = (r.any fun kv => decide (kv.1 = k)) := by
  induction h with
  | nil => rfl
  | cons h t ih => rw [List.any_cons, List.any_cons, ih]
theorem putM_sem {r : List (κ × V)} {q : List (κ × D)} (h : RepP K B r q) {k : κ} {v : V} {d : D} (g : Rep K B v d) : RepP K B (r.map fun kv => if kv.1 = k then (kv.1, v) else kv) (q.map fun kv => if kv.1 = k then (kv.1, d) else kv) := by
  induction h with
  | nil => exact .nil
  | cons h t ih =>
    rename_i k' w dd r q
    rw [List.map_cons, List.map_cons]
    by_cases z : k' = k
    · simp only [z, if_true]; exact .cons g ih
    · simp only [z, if_false]; exact .cons h ih
theorem putA_sem {r : List (κ × V)} {q : List (κ × D)} (h : RepP K B r q) {k : κ} {v : V} {d : D} (g : Rep K B v d) : RepP K B (r ++ [(k, v)]) (q ++ [(k, d)]) := by
  induction h with
  | nil => exact .cons g .nil
  | cons h t ih => exact .cons h ih
theorem putK_sem {r : List (κ × V)} {q : List (κ × D)} (h : RepP K B r q) {k : κ} {v : V} {d : D} (g : Rep K B v d) : RepP K B (putK r k v) (putKD q k d) := by
  unfold putK putKD
  rw [any_sem h]
  split
  · exact putM_sem h g
  · exact putA_sem h g
end
inductive DctD (W : Wd) : D → List (Key × D) → Prop
  | own {a : Addr} {q : List (Key × D)} (h : W a = some (.dct q)) : DctD W (.raw (.ref a)) q
  | lock {a : Addr} {o : Obj} {u : HO} {q : List (Key × D)} (h : W a = some (.lock o u q)) : DctD W (.raw (.ref a)) q
theorem dct_sem {q : List (Key × D)} (s : Sta K B W H) (r : Rep K B v d) (h : DctD W d q) : ∃ a kvs, v = .ref a ∧ Rd H a (.dK kvs) ∧ RepP K B kvs q := by
  cases h with
  | own h =>
    cases r
    obtain ⟨r, g1, g2⟩ := s.dct h
    exact ⟨_, r, rfl, .inl g1, g2⟩
  | lock h =>
    cases r
    obtain ⟨r, rfl, g1, g2⟩ := s.locked h
    exact ⟨_, _, rfl, .inr ⟨_, g1⟩, g2⟩
def kD (k : Key) : D := .raw (kV k)
theorem we_dnew (q : ∀ p, W p = none → Q (.ptr p) (wset W p (.dct []))) : WE K tDNewK e W Q := fun B σ H k s r hk p hp => hk _ _ _ _ _ (Evl.Ex.refl _) (s.new hp (.dct .nil)) (.raw _) (q p (s.nnone hp))
theorem we_dget (q : WE K ta e W fun x W1 => WE K tb e W1 fun y W2 => ∃ q k d, DctD W2 x q ∧ y = kD k ∧ valD q k = some d ∧ Q d W2) : WE K (tDGet ta tb) e W Q := fun B σ H k s r hk =>
  q B σ H _ s r fun v B1 H1 d W1 e1 s1 r1 q1 => q1 B1 σ H1 _ s1 (r.mono e1) fun w B2 H2 d2 W2 e2 s2 r2 q2 => by
    obtain ⟨q, k0, d3, hd, rfl, hv, q2⟩ := q2
    obtain ⟨a, kvs, rfl, g1, g2⟩ := dct_sem s2 (r1.mono e2) hd
    cases r2
    rcases val_sem g2 k0 with ⟨z, _⟩ | ⟨u, d4, z1, z2, z3⟩
    · rw [z] at hv; cases hv
    · rw [z1] at hv; cases hv
      exact ⟨a, u, rfl, .inl ⟨kvs, k0, g1, rfl, z2.symm⟩, hk u B2 H2 _ W2 (e1.trans e2) s2 z3 q2⟩
theorem we_din (q : WE K tb e W fun y W1 => WE K ta e W1 fun x W2 => ∃ q k, DctD W2 x q ∧ y = kD k ∧ Q (.raw (.bl (valD q k).isSome)) W2) : WE K (tDIn tb ta) e W Q := fun B σ H k s r hk =>
  q B σ H _ s r fun v B1 H1 d W1 e1 s1 r1 q1 => q1 B1 σ H1 _ s1 (r.mono e1) fun w B2 H2 d2 W2 e2 s2 r2 q2 => by
    obtain ⟨q, k0, hd, rfl, q2⟩ := q2
    obtain ⟨a, kvs, rfl, g1, g2⟩ := dct_sem s2 r2 hd
    cases r1
    refine ⟨a, valV kvs k0, rfl, .inl ⟨kvs, k0, g1, rfl, rfl⟩, ?_⟩
    have : (valV kvs k0).isSome = (valD q k0).isSome := by
      rcases val_sem g2 k0 with ⟨z, z2⟩ | ⟨u, d4, z1, z2, z3⟩
      · rw [z, z2]; rfl
      · rw [z1, z2]; rfl
    rw [this]
    exact hk _ B2 H2 _ W2 (e1.trans e2) s2 (.raw _) q2
theorem we_dnotin (q : WE K tb e W fun y W1 => WE K ta e W1 fun x W2 => ∃ q k, DctD W2 x q ∧ y = kD k ∧ Q (.raw (.bl (!(valD q k).isSome))) W2) : WE K (tDNotIn tb ta) e W Q := fun B σ H k s r hk =>
  q B σ H _ s r fun v B1 H1 d W1 e1 s1 r1 q1 => q1 B1 σ H1 _ s1 (r.mono e1) fun w B2 H2 d2 W2 e2 s2 r2 q2 => by
    obtain ⟨q, k0, hd, rfl, q2⟩ := q2
    obtain ⟨a, kvs, rfl, g1, g2⟩ := dct_sem s2 r2 hd
    cases r1
    refine ⟨a, valV kvs k0, rfl, .inl ⟨kvs, k0, g1, rfl, rfl⟩, ?_⟩
    have : (valV kvs k0).isSome = (valD q k0).isSome := by
      rcases val_sem g2 k0 with ⟨z, z2⟩ | ⟨u, d4, z1, z2, z3⟩
      · rw [z, z2]; rfl
      · rw [z1, z2]; rfl
    rw [this]
    exact hk _ B2 H2 _ W2 (e1.trans e2) s2 (.raw _) q2
theorem d_dgetI {q : List (Key × D)} {k : Int} {P : D → Prop} (h : DctD W x q) (hv : valD q (.inl k) = some d) (z : P d) : ∃ q k' d, DctD W x q ∧ D.raw (.int k) = kD k' ∧ valD q k' = some d ∧ P d := ⟨q, .inl k, d, h, rfl, hv, z⟩
theorem d_dgetS {q : List (Key × D)} {k : Str} {P : D → Prop} (h : DctD W x q) (hv : valD q (.inr k) = some d) (z : P d) : ∃ q k' d, DctD W x q ∧ D.raw (.str k) = kD k' ∧ valD q k' = some d ∧ P d := ⟨q, .inr k, d, h, rfl, hv, z⟩
theorem d_dinI {P : List (Key × D) → Key → Prop} {q : List (Key × D)} {k : Int} (h : DctD W x q) (z : P q (.inl k)) : ∃ q k', DctD W x q ∧ D.raw (.int k) = kD k' ∧ P q k' := ⟨q, .inl k, h, rfl, z⟩
theorem d_dinS {P : List (Key × D) → Key → Prop} {q : List (Key × D)} {k : Str} (h : DctD W x q) (z : P q (.inr k)) : ∃ q k', DctD W x q ∧ D.raw (.str k) = kD k' ∧ P q k' := ⟨q, .inr k, h, rfl, z⟩
theorem ws_dput {td ty tv : TE} (q : WE K tv e W fun v W1 => WE K td e W1 fun x W2 => WE K ty e W2 fun y W3 => ∃ a q k, x = .ptr a ∧ W3 a = some (.dct q) ∧ y = kD k ∧ q.length < sizeLine ∧ E.nx e (wset W3 a (.dct (putKD q k v)))) : WS K (sDPut td ty tv) e W E := fun Dn B σ H s r h1 h2 h3 h4 =>
  q B σ H _ s r fun v B1 H1 d1 W1 e1 s1 r1 q1 => q1 B1 σ H1 _ s1 (r.mono e1) fun w B2 H2 d2 W2 e2 s2 r2 q2 => q2 B2 σ H2 _ s2 ((r.mono e1).mono e2) fun u B3 H3 d3 W3 e3 s3 r3 q3 => by
    obtain ⟨a, q, k, rfl, g1, rfl, hl, q3⟩ := q3
    cases r2; cases r3
    obtain ⟨kvs, g2, g3⟩ := s3.dct g1
    exact ⟨a, _, rfl, .inl ⟨kvs, k, g2, rfl, by rw [g3.len]; exact hl, rfl⟩, h1 σ B3 _ e _ ((e1.trans e2).trans e3) (s3.set g1 (.dct (putK_sem g3 ((r1.mono e2).mono e3)))) (r.mono ((e1.trans e2).trans e3)) q3⟩
theorem d_dputI {q : List (Key × D)} {k : Int} {v : D} {P : Wd → Prop} (h : W a = some (.dct q)) (hl : q.length < sizeLine) (z : P (wset W a (.dct (putKD q (.inl k) v)))) : ∃ a' q k', D.raw (.ref a) = .ptr a' ∧ W a' = some (.dct q) ∧ D.raw (.int k) = kD k' ∧ q.length < sizeLine ∧ P (wset W a' (.dct (putKD q k' v))) := ⟨a, q, .inl k, rfl, h, rfl, hl, z⟩
theorem d_dputS {q : List (Key × D)} {k : Str} {v : D} {P : Wd → Prop} (h : W a = some (.dct q)) (hl : q.length < sizeLine) (z : P (wset W a (.dct (putKD q (.inr k) v)))) : ∃ a' q k', D.raw (.ref a) = .ptr a' ∧ W a' = some (.dct q) ∧ D.raw (.str k) = kD k' ∧ q.length < sizeLine ∧ P (wset W a' (.dct (putKD q k' v))) := ⟨a, q, .inr k, rfl, h, rfl, hl, z⟩
theorem d_lenD {q : List (Key × D)} (h : W a = some (.dct q)) (z : Q (.raw (.int q.length)) W) : RC K rLenD [.raw (.ref a)] W Q := fun B H vs k s r hk => by
  cases r with
  | cons r1 r2 =>
    cases r1; cases r2
    obtain ⟨kvs, g2, g3⟩ := s.dct h
    exact ⟨a, kvs, rfl, g2, by rw [g3.len]; exact hk _ B H _ W (Evl.Ex.refl _) s (.raw _) z⟩
theorem d_isiL {n : String} {b : Bool} (h : SeqD W x ds) (hk : kitB "list" n = some b) (q : Q (.raw (.bl b)) W) : RC K (rIsi K) [x, .raw (.ty n)] W Q := fun B H vs k s r hq => by
  cases r with
  | cons r1 r2 =>
    cases r2 with
    | cons r2 r3 =>
      cases r2; cases r3
      obtain ⟨a, xs, rfl, g1, _⟩ := seq_sem s r1 h
      exact w_isiSL g1 hk (hq _ B H _ W (Evl.Ex.refl _) s (.raw _) q)
theorem d_isiT {n : String} {b : Bool} (hk : kitB "tuple" n = some b) (q : Q (.raw (.bl b)) W) : RC K (rIsi K) [.tup ds, .raw (.ty n)] W Q := fun B H vs k s r hq => by
  cases r with
  | cons r1 r2 =>
    cases r2 with
    | cons r2 r3 =>
      cases r2; cases r3
      cases r1 with
      | tup g1 hs => exact w_isiST (ex_st s.ex g1) hk (hq _ B H _ W (Evl.Ex.refl _) s (.raw _) q)
theorem d_isiI {n : String} {b : Bool} {j : Int} (hk : kitB "int" n = some b) (q : Q (.raw (.bl b)) W) : RC K (rIsi K) [.raw (.int j), .raw (.ty n)] W Q := rc_raw2 (fun _ _ => w_isiI hk) q
theorem d_isiB {n : String} {b j : Bool} (hk : kitB "bool" n = some b) (q : Q (.raw (.bl b)) W) : RC K (rIsi K) [.raw (.bl j), .raw (.ty n)] W Q := rc_raw2 (fun _ _ => w_isiB hk) q
theorem d_isiN {n : String} {b : Bool} (hk : kitB "NoneType" n = some b) (q : Q (.raw (.bl b)) W) : RC K (rIsi K) [.raw .non, .raw (.ty n)] W Q := rc_raw2 (fun _ _ => w_isiN hk) q
theorem d_isiS {n : String} {b : Bool} {j : Str} (hk : kitB "str" n = some b) (q : Q (.raw (.bl b)) W) : RC K (rIsi K) [.raw (.str j), .raw (.ty n)] W Q := rc_raw2 (fun _ _ => w_isiS hk) q
end
end
set_option Elab.async false
set_option linter.all false
set_option maxRecDepth 100000
set_option maxHeartbeats 2000000
set_option autoImplicit false
local macro_rules | `(tactic| walk_at "dd") => `(tactic| first | with_reducible assumption | ((with_reducible refine' DctD.own ?h); (case h => walk_at "wk")) | ((with_reducible refine' DctD.lock ?h); (case h => walk_at "wk")))
local macro_rules | `(tactic| walk_at "mgoN") => `(tactic| (repeat (first | walk_at "mst" | walk_at "callm" | with_reducible refine' we_call ?_ | ((with_reducible show ∀ p, _ = none → _); intro p hp; refine fz_id ?_))))
local macro_rules | `(tactic| walk_at "keep") => `(tactic| (intro p hp; refine fz_id ?_; walk_at "mgo"))
local macro_rules | `(tactic| walk_at "dat") => `(tactic| (intro p hp; refine fz_new hp ?_; clear hp; try clear p; walk_at "mgo"))
section
open PySem L2
structure ItD where
  n : Nat
  dep : Wd → Prop
  grow : ∀ W W', Sub W W' → dep W → dep W'
  item : Nat → Option D
def ItOk (K : PySem.W.Frag) (B : Hp) (J : It) (I : ItD) : Prop := ∃ (G : Hp → Prop) (Y : Nat → Hp → V → Hp → Prop), Walk J I.n G Y ∧ (∀ B2 W2 H2, Ex B B2 → Sta K B2 W2 H2 → I.dep W2 → G H2) ∧
  ∀ i B2 W2 H2 x H3, i < I.n → Ex B B2 → Sta K B2 W2 H2 → I.dep W2 → Y i H2 x H3 → ∃ B3 d, Ex B2 B3 ∧ Sta K B3 W2 H3 ∧ I.item i = some d ∧ Rep K B3 x d
def WI (K : PySem.W.Frag) (wi : TI) (e : Env) (W : Wd) (QI : ItD → Wd → Prop) : Prop :=
  ∀ (B : Hp) (σ : L2.St) (H : Hp) (k : It → Hp → Prop), Sta K B W H → EnvR K B σ e → (∀ J B' H' I W', Ex B B' → Sta K B' W' H' → ItOk K B' J I → I.dep W' → QI I W' → k J H') → wi σ H k
def itS (x : D) (ds : List D) : ItD := ⟨ds.length, fun W => SeqD W x ds, fun _ _ m h => h.er m, fun i => ds[i]?⟩
def itT (ds : List D) : ItD := ⟨ds.length, fun _ => True, fun _ _ _ h => h, fun i => ds[i]?⟩
def itStr (z : Str) : ItD := ⟨z.length, fun _ => True, fun _ _ _ h => h, fun i => z.cps[i]?.map fun c => .raw (.str ⟨#[c]⟩)⟩
def itR (lo c : Int) (n : Nat) : ItD := ⟨n, fun _ => True, fun _ _ _ h => h, fun i => some (.raw (.int (lo + (i : Nat) * c)))⟩
def itE (x : D) (ds : List D) : ItD := ⟨ds.length, fun W => SeqD W x ds, fun _ _ m h => h.er m, fun i => ds[i]?.map fun d => .tup [.raw (.int (i : Nat)), d]⟩
def itZ (x y : D) (ds es : List D) : ItD := ⟨min ds.length es.length, fun W => SeqD W x ds ∧ SeqD W y es, fun _ _ m h => ⟨h.1.er m, h.2.er m⟩, fun i => (ds[i]?).bind fun d => (es[i]?).map fun e => .tup [d, e]⟩
def itV (x : D) (ds : List D) : ItD := ⟨ds.length, fun W => SeqD W x ds, fun _ _ m h => h.er m, fun i => ds[ds.length - 1 - i]?⟩
section
variable {K : PySem.W.Frag} {e : Env} {W : Wd} {te ta tb tx ty : TE} {Q : KD} {ts tu tw : TS} {E : DE} {x y z d : D} {i : Nat} {tr tl : TA} {B H : Hp} {v : V} {ds es : List D} {QI : ItD → Wd → Prop}
theorem it_list {a : Addr} (r : Rep K B (.ref a) x) : ItOk K B (Itl K a) (itS x ds) := by
  refine ⟨fun H => ∃ xs, SqL K H a xs ∧ xs.length = ds.length, fun i H y H' => H' = H ∧ ∀ xs, SqL K H a xs → xs[i]? = some y, ⟨fun i H hi q => ?_, fun H q => ?_, fun i H y H' hi q w => w⟩, fun B2 W2 H2 e2 s2 dp => ?_, fun i B2 W2 H2 y H3 hi e2 s2 dp w => ?_⟩
  · obtain ⟨xs, h1, h2⟩ := q
    exact ⟨xs, xs[i]'(by rw [h2]; exact hi), h1, by simp⟩
  · obtain ⟨xs, h1, h2⟩ := q
    exact ⟨xs, h1, Nat.le_of_eq h2⟩
  · obtain ⟨a', xs, h0, h1, h2⟩ := seq_sem s2 (r.mono e2) dp
    cases h0
    exact ⟨xs, h1, h2.len⟩
  · obtain ⟨a', xs, h0, h1, h2⟩ := seq_sem s2 (r.mono e2) dp
    cases h0
    obtain ⟨rfl, w⟩ := w
    obtain ⟨d, h3, h4⟩ := h2.get' (w xs h1)
    exact ⟨B2, d, Evl.Ex.refl _, s2, h3, h4⟩
theorem wi_list (q : WE K te e W fun x W1 => ∃ ds, SeqD W1 x ds ∧ QI (itS x ds) W1) : WI K (iList K te) e W QI := fun B σ H k s r hk =>
  q B σ H _ s r fun v B1 H1 d W1 e1 s1 r1 q1 => by
    obtain ⟨ds, h1, q1⟩ := q1
    obtain ⟨a, xs, rfl, h2, h3⟩ := seq_sem s1 r1 h1
    exact ⟨a, rfl, ⟨xs, h2⟩, hk _ B1 H1 _ W1 e1 s1 (it_list r1) h1 q1⟩
theorem d_sq {P : List D → Prop} (h : SeqD W x ds) (q : P ds) : ∃ ds, SeqD W x ds ∧ P ds := ⟨ds, h, q⟩
theorem wi_tup (q : WE K te e W fun x W1 => ∃ ds, x = .tup ds ∧ QI (itT ds) W1) : WI K (iTup K te) e W QI := fun B σ H k s r hk =>
  q B σ H _ s r fun v B1 H1 d W1 e1 s1 r1 q1 => by
    obtain ⟨ds, rfl, q1⟩ := q1
    cases r1 with
    | tup h hs =>
      rename_i a xs
      refine ⟨a, rfl, ⟨xs, ex_st s1.ex h⟩, hk _ B1 H1 _ W1 e1 s1 ⟨fun H => SqT K H a xs, YAt xs, ?_, fun B2 W2 H2 e2 s2 _ => ex_st (e2.trans s2.ex) h, fun i B2 W2 H2 y H3 hi e2 s2 dp w => ?_⟩ trivial q1⟩
      · have := walk_tup (K := K) (a := a) (xs := xs)
        rw [hs.len] at this
        exact this
      · obtain ⟨rfl, w⟩ := w
        obtain ⟨d, h3, h4⟩ := (hs.mono e2).get' w
        exact ⟨B2, d, Evl.Ex.refl _, s2, h3, h4⟩
theorem d_tp {P : List D → Prop} (q : P ds) : ∃ es, D.tup ds = .tup es ∧ P es := ⟨ds, rfl, q⟩
theorem wi_str (q : WE K te e W fun x W1 => ∃ z, x = .raw (.str z) ∧ QI (itStr z) W1) : WI K (iStr te) e W QI := fun B σ H k s r hk =>
  q B σ H _ s r fun v B1 H1 d W1 e1 s1 r1 q1 => by
    obtain ⟨z, rfl, q1⟩ := q1
    cases r1
    refine ⟨z, rfl, hk _ B1 H1 _ W1 e1 s1 ⟨_, _, walk_str, fun _ _ _ _ _ _ => trivial, fun i B2 W2 H2 y H3 hi e2 s2 dp w => ?_⟩ trivial q1⟩
    obtain ⟨rfl, c, h1, rfl⟩ := w
    exact ⟨B2, _, Evl.Ex.refl _, s2, by show Option.map _ z.cps[i]? = _; rw [h1]; rfl, .raw _⟩
theorem d_st {P : Str → Prop} {a : Str} (q : P a) : ∃ z, D.raw (.str a) = .raw (.str z) ∧ P z := ⟨a, rfl, q⟩
theorem it_rng {lo : Int} {n : Nat} : ItOk K B (Itr lo n) (itR lo 1 n) :=
  ⟨_, _, walk_range, fun _ _ _ _ _ _ => trivial, fun i B2 W2 H2 y H3 hi e2 s2 dp w => by
    obtain ⟨rfl, rfl⟩ := w
    exact ⟨B2, _, Evl.Ex.refl _, s2, by show some (D.raw (.int (lo + (i : Nat) * 1))) = _; rw [Int.mul_one], .raw _⟩⟩
theorem wi_rng1 (q : WA K tl e W fun ds W1 => ∃ j : Int, ds = [.raw (.int j)] ∧ (-(2 ^ 62) ≤ j ∧ j < 2 ^ 62) ∧ QI (itR 0 1 j.toNat) W1) : WI K (iRng1 tl) e W QI := fun B σ H k s r hk =>
  q B σ H _ s r fun vs B1 H1 ds W1 e1 s1 r1 q1 => by
    obtain ⟨j, rfl, ⟨h1, h2⟩, q1⟩ := q1
    cases r1 with
    | cons r1 r2 =>
      cases r1; cases r2
      exact ⟨j, rfl, h1, h2, hk _ B1 H1 _ W1 e1 s1 it_rng trivial q1⟩
theorem d_r1 {j : Int} {P : Int → Prop} (h : -(2 ^ 62) ≤ j ∧ j < 2 ^ 62) (q : P j) : ∃ i : Int, [D.raw (.int j)] = [.raw (.int i)] ∧ (-(2 ^ 62) ≤ i ∧ i < 2 ^ 62) ∧ P i := ⟨j, rfl, h, q⟩
theorem wi_rng2 (q : WA K tl e W fun ds W1 => ∃ i j : Int, ds = [.raw (.int i), .raw (.int j)] ∧ (-(2 ^ 62) ≤ i ∧ i < 2 ^ 62 ∧ -(2 ^ 62) ≤ j ∧ j < 2 ^ 62) ∧ QI (itR i 1 (j - i).toNat) W1) : WI K (iRng2 tl) e W QI := fun B σ H k s r hk =>
  q B σ H _ s r fun vs B1 H1 ds W1 e1 s1 r1 q1 => by
    obtain ⟨i, j, rfl, h1, q1⟩ := q1
    cases r1 with
    | cons r1 r2 =>
      cases r2 with
      | cons r2 r3 =>
        cases r1; cases r2; cases r3
        exact ⟨i, j, rfl, h1, hk _ B1 H1 _ W1 e1 s1 it_rng trivial q1⟩
theorem d_r2 {a b : Int} {P : Int → Int → Prop} (h : -(2 ^ 62) ≤ a ∧ a < 2 ^ 62 ∧ -(2 ^ 62) ≤ b ∧ b < 2 ^ 62) (q : P a b) : ∃ i j : Int, [D.raw (.int a), .raw (.int b)] = [.raw (.int i), .raw (.int j)] ∧ (-(2 ^ 62) ≤ i ∧ i < 2 ^ 62 ∧ -(2 ^ 62) ≤ j ∧ j < 2 ^ 62) ∧ P i j := ⟨a, b, rfl, h, q⟩
theorem wi_rng3 (q : WA K tl e W fun ds W1 => ∃ (i j c : Int) (n : Nat), ds = [.raw (.int i), .raw (.int j), .raw (.int c)] ∧ RgC i j c n ∧ QI (itR i c n) W1) : WI K (iRng3 tl) e W QI := fun B σ H k s r hk =>
  q B σ H _ s r fun vs B1 H1 ds W1 e1 s1 r1 q1 => by
    obtain ⟨i, j, c, n, rfl, h1, q1⟩ := q1
    cases r1 with
    | cons r1 r2 =>
      cases r2 with
      | cons r2 r3 =>
        cases r3 with
        | cons r3 r4 =>
          cases r1; cases r2; cases r3; cases r4
          refine ⟨i, j, c, n, rfl, h1, hk _ B1 H1 _ W1 e1 s1 ⟨_, _, walk_rangeC, fun _ _ _ _ _ _ => trivial, fun i B2 W2 H2 y H3 hi e2 s2 dp w => ?_⟩ trivial q1⟩
          obtain ⟨rfl, rfl⟩ := w
          exact ⟨B2, _, Evl.Ex.refl _, s2, rfl, .raw _⟩
theorem pair_sem {B2 H2 : Hp} {W2 : Wd} {T : Addr} {u w : V} {d1 d2 : D} (s : Sta K B2 W2 H2) (hT : H2 T = none) (r1 : Rep K B2 u d1) (r2 : Rep K B2 w d2) : ∃ B3, Ex B2 B3 ∧ Sta K B3 W2 (upd H2 T (.tup [u, w])) ∧ Rep K B3 (.ref T) (.tup [d1, d2]) :=
  ⟨_, (s.newB hT).2, (s.newB hT).1, .tup (SqT.of upd_same) (.cons (r1.mono (s.newB hT).2) (.cons (r2.mono (s.newB hT).2) .nil))⟩
theorem wi_enum (q : WA K tl e W fun vs W1 => ∃ x ds, vs = [x] ∧ SeqD W1 x ds ∧ QI (itE x ds) W1) : WI K (iEnum K tl) e W QI := fun B σ H k s r hk =>
  q B σ H _ s r fun vs B1 H1 d W1 e1 s1 r1 q1 => by
    obtain ⟨x, ds, rfl, h1, q1⟩ := q1
    cases r1 with
    | cons r1 r2 =>
      cases r2
      obtain ⟨a, xs, rfl, h2, h3⟩ := seq_sem s1 r1 h1
      refine ⟨a, xs, rfl, h2, hk _ B1 H1 (itE x ds) W1 e1 s1 ⟨fun H => ∃ xs, SqL K H a xs ∧ xs.length = ds.length, fun i H y H' => ∃ T u, y = .ref T ∧ H T = none ∧ H' = upd H T (.tup [.int (i : Nat), u]) ∧ ∀ xs, SqL K H a xs → xs[i]? = some u, ⟨fun i H hi q => ?_, fun H q => ?_, fun i H y H' hi q w => w⟩, fun B2 W2 H2 e2 s2 dp => ?_, fun i B2 W2 H2 y H3 hi e2 s2 dp w => ?_⟩ h1 q1⟩
      · obtain ⟨xs, h1, h2⟩ := q
        exact ⟨xs, xs[i]'(by rw [h2]; exact hi), h1, by simp⟩
      · obtain ⟨xs, h1, h2⟩ := q
        exact ⟨xs, h1, Nat.le_of_eq h2⟩
      · obtain ⟨a', xs, h0, h1, h2⟩ := seq_sem s2 (r1.mono e2) dp
        cases h0
        exact ⟨xs, h1, h2.len⟩
      · obtain ⟨a', xs, h0, h1, h2⟩ := seq_sem s2 (r1.mono e2) dp
        cases h0
        obtain ⟨T, u, rfl, hT, rfl, w⟩ := w
        obtain ⟨d, h3, h4⟩ := h2.get' (w xs h1)
        obtain ⟨B3, e3, s3, r3⟩ := pair_sem s2 hT (.raw (.int (i : Nat))) h4
        exact ⟨B3, _, e3, s3, by show Option.map _ ds[i]? = _; rw [h3]; rfl, r3⟩
theorem wi_zip (q : WA K tl e W fun vs W1 => ∃ x y ds es, vs = [x, y] ∧ SeqD W1 x ds ∧ SeqD W1 y es ∧ QI (itZ x y ds es) W1) : WI K (iZip K tl) e W QI := fun B σ H k s r hk =>
  q B σ H _ s r fun vs B1 H1 d W1 e1 s1 r1 q1 => by
    obtain ⟨x, y, ds, es, rfl, h1, g1, q1⟩ := q1
    cases r1 with
    | cons r1 r2 =>
      cases r2 with
      | cons r2 r3 =>
        cases r3
        obtain ⟨a, xs, rfl, h2, h3⟩ := seq_sem s1 r1 h1
        obtain ⟨b, ys, rfl, g2, g3⟩ := seq_sem s1 r2 g1
        refine ⟨a, b, xs, ys, rfl, h2, g2, hk _ B1 H1 (itZ x y ds es) W1 e1 s1 ⟨fun H => ∃ xs ys, SqL K H a xs ∧ SqL K H b ys ∧ xs.length = ds.length ∧ ys.length = es.length, fun i H z H' => ∃ T u w, z = .ref T ∧ H T = none ∧ H' = upd H T (.tup [u, w]) ∧ (∀ xs, SqL K H a xs → xs[i]? = some u) ∧ ∀ ys, SqL K H b ys → ys[i]? = some w, ⟨fun i H hi q => ?_, fun H q => ?_, fun i H y H' hi q w => w⟩, fun B2 W2 H2 e2 s2 dp => ?_, fun i B2 W2 H2 y H3 hi e2 s2 dp w => ?_⟩ ⟨h1, g1⟩ q1⟩
        · obtain ⟨xs, ys, k1, k2, k3, k4⟩ := q
          have hi : i < min ds.length es.length := hi
          exact ⟨xs, ys, xs[i]'(by omega), ys[i]'(by omega), k1, k2, by simp, by simp⟩
        · obtain ⟨xs, ys, k1, k2, k3, k4⟩ := q
          exact ⟨xs, ys, k1, k2, by show _ ≤ min ds.length es.length ∨ _ ≤ min ds.length es.length; omega⟩
        · obtain ⟨a', xs, h0, h1, h2⟩ := seq_sem s2 (r1.mono e2) dp.1
          obtain ⟨b', ys, j0, j1, j2⟩ := seq_sem s2 (r2.mono e2) dp.2
          cases h0; cases j0
          exact ⟨xs, ys, h1, j1, h2.len, j2.len⟩
        · obtain ⟨a', xs, h0, h1, h2⟩ := seq_sem s2 (r1.mono e2) dp.1
          obtain ⟨b', ys, j0, j1, j2⟩ := seq_sem s2 (r2.mono e2) dp.2
          cases h0; cases j0
          obtain ⟨T, u, w, rfl, hT, rfl, w1, w2⟩ := w
          obtain ⟨d, h3, h4⟩ := h2.get' (w1 xs h1)
          obtain ⟨d', h5, h6⟩ := j2.get' (w2 ys j1)
          obtain ⟨B3, e3, s3, r3⟩ := pair_sem s2 hT h4 h6
          exact ⟨B3, _, e3, s3, by show Option.bind ds[i]? _ = _; rw [h3]; show Option.map _ es[i]? = _; rw [h5]; rfl, r3⟩
theorem wi_rev (q : WA K tl e W fun vs W1 => ∃ x ds, vs = [x] ∧ SeqD W1 x ds ∧ QI (itV x ds) W1) : WI K (iRev K tl) e W QI := fun B σ H k s r hk =>
  q B σ H _ s r fun vs B1 H1 d W1 e1 s1 r1 q1 => by
    obtain ⟨x, ds, rfl, h1, q1⟩ := q1
    cases r1 with
    | cons r1 r2 =>
      cases r2
      obtain ⟨a, xs, rfl, h2, h3⟩ := seq_sem s1 r1 h1
      refine ⟨a, xs, rfl, h2, hk _ B1 H1 (itV x ds) W1 e1 s1 ⟨fun H => ∃ xs, SqL K H a xs ∧ xs.length = ds.length, fun i H y H' => H' = H ∧ ∀ xs, SqL K H a xs → xs.length = ds.length → xs[ds.length - 1 - i]? = some y, ⟨fun i H hi q => ?_, fun H q => ?_, fun i H y H' hi q w => ?_⟩, fun B2 W2 H2 e2 s2 dp => ?_, fun i B2 W2 H2 y H3 hi e2 s2 dp w => ?_⟩ h1 q1⟩
      · obtain ⟨ys, k1, k2⟩ := q
        have hi : i < ds.length := hi
        have := h3.len
        exact ⟨by omega, ys, ys[xs.length - 1 - i]'(by omega), k1, by simp⟩
      · show xs.length ≤ ds.length
        exact Nat.le_of_eq h3.len
      · refine ⟨w.1, fun ys k1 k2 => ?_⟩
        have := w.2 ys k1
        rwa [h3.len] at this
      · obtain ⟨a', xs, h0, h1, h2⟩ := seq_sem s2 (r1.mono e2) dp
        cases h0
        exact ⟨xs, h1, h2.len⟩
      · obtain ⟨a', xs, h0, h1, h2⟩ := seq_sem s2 (r1.mono e2) dp
        cases h0
        obtain ⟨rfl, w⟩ := w
        obtain ⟨d, h3, h4⟩ := h2.get' (w xs h1 h2.len)
        exact ⟨B2, d, Evl.Ex.refl _, s2, h3, h4⟩
theorem d_one {P : D → List D → Prop} (h : SeqD W x ds) (q : P x ds) : ∃ y es, [x] = [y] ∧ SeqD W y es ∧ P y es := ⟨x, ds, rfl, h, q⟩
theorem d_two {P : D → D → List D → List D → Prop} (h : SeqD W x ds) (h2 : SeqD W y es) (q : P x y ds es) : ∃ x' y' ds es, [x, y] = [x', y'] ∧ SeqD W x' ds ∧ SeqD W y' es ∧ P x' y' ds es := ⟨x, y, ds, es, rfl, h, h2, q⟩
theorem nx_id {P : Env → Wd → Prop} (q : P e W) : Nx P e W := ⟨e, W, EnvLe.refl _, Vs.refl _, q⟩
theorem nx_of {P : Env → Wd → Prop} {e' : Env} {W' : Wd} (l : EnvLe e' e) (m : Sub W' W) (q : P e' W') : Nx P e W := ⟨e', W', l, Vs.of m, q⟩
theorem nx_le {P : Env → Wd → Prop} {e' : Env} (l : EnvLe e' e) (q : P e' W) : Nx P e W := ⟨e', W, l, Vs.refl _, q⟩
theorem ws_for {wi : TI} {g : TG} (q : WI K wi e W fun I W1 => ∃ P : Nat → Env → Wd → Prop, Nx (P 0) e W1 ∧ (∀ i e' W', i ≤ I.n → P i e' W' → I.dep W') ∧
    (∀ i d e' W', i < I.n → I.item i = some d → P i e' W' → WG K g d e' W' fun e2 W2 => WS K ts e2 W2 { nx := Nx (P (i + 1)), ct := Nx (P (i + 1)), bk := E.nx, rt := E.rt }) ∧ ∀ e' W', P I.n e' W' → E.nx e' W') : WS K (tFor wi g ts) e W E := fun Dn B σ H s r h1 h2 h3 h4 =>
  q B σ H _ s r fun J B1 H1 I W1 e1 s1 ok dp q1 => by
    obtain ⟨P, p0, pd, ps, pe⟩ := q1
    obtain ⟨G, Y, w, hG, hY⟩ := ok
    have down : ∀ j σ' B' H' e' W', Ex B1 B' → Sta K B' W' H' → EnvR K B' σ' e' → Nx (P j) e' W' → ∃ B' e' W', Ex B1 B' ∧ Sta K B' W' H' ∧ EnvR K B' σ' e' ∧ P j e' W' := fun j σ' B' H' e' W' x s' r' q' => by
      obtain ⟨e2, W2, l2, m2, q2⟩ := q'
      exact ⟨B', e2, W2, x, m2 _ _ _ s', r'.le l2, q2⟩
    refine for_it w (fun i σ H => ∃ B' e' W', Ex B1 B' ∧ Sta K B' W' H ∧ EnvR K B' σ e' ∧ P i e' W') (down 0 _ _ _ _ _ (Evl.Ex.refl _) s1 (r.mono e1) p0) (fun i σ H hi p => ?_) ?_ ?_
    · obtain ⟨B', e', W', x, s', r', p'⟩ := p
      exact hG B' W' H x s' (pd i e' W' hi p')
    · rintro i x σ H H' hi ⟨B', e', W', x', s', r', p'⟩ y
      obtain ⟨B3, d, e3, s3, hd, r3⟩ := hY i B' W' H x H' hi x' s' (pd i e' W' (Nat.le_of_lt hi) p') y
      refine ps i d e' W' hi hd p' B3 σ H' x _ s3 (r'.mono e3) r3 fun σ2 B2 H2 e2 W2 x2 s2 r2 q2 => ?_
      exact q2 { Dn with nx := _, ct := _, bk := Dn.nx } B2 σ2 H2 s2 r2 (fun σ' B' H' e' W' x => down (i + 1) σ' B' H' e' W' (((x'.trans e3).trans x2).trans x)) (fun v B' H' d W' x => h2 v B' H' d W' ((((e1.trans x').trans e3).trans x2).trans x)) (fun σ' B' H' e' W' x => h1 σ' B' H' e' W' ((((e1.trans x').trans e3).trans x2).trans x)) fun σ' B' H' e' W' x => down (i + 1) σ' B' H' e' W' (((x'.trans e3).trans x2).trans x)
    · rintro σ H ⟨B', e', W', x', s', r', p'⟩
      exact h1 σ B' H e' W' (e1.trans x') s' r' (pe e' W' p')
theorem ws_while {c : TT} (P : Nat → Env → Wd → Prop) {m : Nat} (h0 : Nx (P m) e W) (hs : ∀ m e' W', P m e' W' → WT K c e' W' fun b W2 => if b = true then WS K ts e' W2 { nx := fun e3 W3 => ∃ m', m' < m ∧ Nx (P m') e3 W3, ct := fun e3 W3 => ∃ m', m' < m ∧ Nx (P m') e3 W3, bk := E.nx, rt := E.rt } else E.nx e' W2) : WS K (tWhile c ts) e W E := fun Dn B σ H s r h1 h2 h3 h4 => by
  have down : ∀ j σ' B' H' e' W', Ex B B' → Sta K B' W' H' → EnvR K B' σ' e' → Nx (P j) e' W' → ∃ B' e' W', Ex B B' ∧ Sta K B' W' H' ∧ EnvR K B' σ' e' ∧ P j e' W' := fun j σ' B' H' e' W' x s' r' q' => by
    obtain ⟨e2, W2, l2, m2, q2⟩ := q'
    exact ⟨B', e2, W2, x, m2 _ _ _ s', r'.le l2, q2⟩
  refine ⟨fun m σ H => ∃ B' e' W', Ex B B' ∧ Sta K B' W' H ∧ EnvR K B' σ e' ∧ P m e' W', ⟨m, down m _ _ _ _ _ (Evl.Ex.refl _) s r h0⟩, ?_⟩
  rintro m σ H ⟨B', e', W', x', s', r', p'⟩
  refine hs m e' W' p' B' σ H _ s' r' fun b B2 H2 W2 e2 s2 q2 => ?_
  cases b with
  | false => exact iteF (h1 σ B2 H2 e' W2 (x'.trans e2) s2 (r'.mono e2) q2)
  | true =>
    refine iteT ⟨fun σ' H' => ∃ m', m' < m ∧ ∃ B' e' W', Ex B B' ∧ Sta K B' W' H' ∧ EnvR K B' σ' e' ∧ P m' e' W', fun σ' H' h => h, ?_⟩
    have q2 : WS K ts e' W2 _ := q2
    exact q2 { Dn with nx := _, ct := _, bk := Dn.nx } B2 σ H2 s2 (r'.mono e2) (fun σ' B' H' e' W' x s'' r'' q => by
        obtain ⟨m', hm, q⟩ := q
        exact ⟨m', hm, down m' σ' B' H' e' W' ((x'.trans e2).trans x) s'' r'' q⟩) (fun v B' H' d W' x => h2 v B' H' d W' ((x'.trans e2).trans x)) (fun σ' B' H' e' W' x => h1 σ' B' H' e' W' ((x'.trans e2).trans x)) fun σ' B' H' e' W' x s'' r'' q => by
        obtain ⟨m', hm, q⟩ := q
        exact ⟨m', hm, down m' σ' B' H' e' W' ((x'.trans e2).trans x) s'' r'' q⟩
def wipeD (e : Env) : List Nat → Env
  | [] => e
  | v :: vs => (wipeD e vs).set v none
theorem wipe_r {σ : L2.St} (r : EnvR K B σ e) : ∀ vs : List Nat, EnvR K B (wipe σ vs) (wipeD e vs)
  | [] => r
  | v :: vs => (wipe_r r vs).wipe1
theorem wipe_get (σ : L2.St) (i : Nat) : ∀ vs : List Nat, (wipe σ vs)[i]? = if i ∈ vs ∧ i < σ.length then some none else σ[i]?
  | [] => by simp [wipe]
  | v :: vs => by
    have ih := wipe_get σ i vs
    have hl := wipe_length σ vs
    unfold wipe
    rw [List.getElem?_set]
    by_cases h : v = i
    · subst h
      by_cases h2 : v < σ.length
      · simp [hl, h2]
      · simp [hl, h2, List.getElem?_eq_none (Nat.le_of_not_lt h2)]
    · rw [if_neg h, ih]
      by_cases h2 : i ∈ vs
      · simp [h2]
      · have : ¬ i = v := fun z => h z.symm
        simp [h2, this]
theorem wipe_wipe (σ : L2.St) (vs : List Nat) : wipe (wipe σ vs) vs = wipe σ vs := by
  refine List.ext_getElem? fun i => ?_
  rw [wipe_get, wipe_get, wipe_length]
  split <;> simp_all
theorem wipe_set {σ : L2.St} {vs : List Nat} {i : Nat} {x : Option V} (h : i ∈ vs) : wipe (σ.set i x) vs = wipe σ vs := by
  refine List.ext_getElem? fun j => ?_
  rw [wipe_get, wipe_get, List.length_set]
  by_cases z : j ∈ vs
  · by_cases l : j < σ.length
    · simp [z, l]
    · simp [z, l, List.getElem?_eq_none (Nat.le_of_not_lt l)]
  · have : ¬ i = j := fun q => z (q ▸ h)
    simp [z, List.getElem?_set_ne this]
def OwnG (g : TG) (vs : List Nat) : Prop := ∀ v σ H (P P' : L2.St → Hp → Prop), (∀ σ' H', wipe σ' vs = wipe σ vs → P σ' H' → P' σ' H') → g v σ H P → g v σ H P'
def OwnGs (g : TGs) (vs : List Nat) : Prop := ∀ v σ H (P P' : L2.St → Hp → Prop), (∀ σ' H', wipe σ' vs = wipe σ vs → P σ' H' → P' σ' H') → g v σ H P → g v σ H P'
theorem own_name {vs : List Nat} (h : i ∈ vs) : OwnG (gName i) vs := fun v σ H P P' m q => m _ _ (wipe_set h) q
theorem own_nil {vs : List Nat} : OwnGs gNil vs := fun v σ H P P' m q => ⟨q.1, m _ _ rfl q.2⟩
theorem own_tup {vs : List Nat} {n : Nat} {u : TGs} (h : OwnGs u vs) : OwnG (gTup K n u) vs := fun v σ H P P' m q => by
  obtain ⟨a, xs, e, h1, h2, q⟩ := q
  exact ⟨a, xs, e, h1, h2, h _ _ _ _ _ m q⟩
theorem own_cons {g : TG} {t : TGs} {vs : List Nat} (h : OwnG g vs) (k : OwnGs t vs) : OwnGs (gCons g t) vs := fun v σ H P P' m q => by
  obtain ⟨x, r, e, q⟩ := q
  exact ⟨x, r, e, h _ _ _ _ _ (fun σ1 H1 w1 q1 => k _ _ _ _ _ (fun σ2 H2 w2 q2 => m σ2 H2 (w2.trans w1) q2) q1) q⟩
theorem we_lcF {wi : TI} {g : TG} {tt : TT} {vs : List Nat} (ow : OwnG g vs) (q : WI K wi e W fun I W1 => I.n ≤ 1000000 ∧ ∃ f : Nat → Option D,
    (∀ p i d L, W1 p = none → i < I.n → I.item i = some d → WG K g d (wipeD e vs) (wset W1 p (.lst L)) fun e2 W2 => WT K tt e2 W2 fun b W3 => if b = true then WE K te e2 W3 (FzQ (SubQ fun y W4 => f i = some y ∧ W4 = wset W1 p (.lst L))) else f i = none ∧ W3 = wset W1 p (.lst L)) ∧
    ∀ p, W1 p = none → Q (.ptr p) (wset W1 p (.lst ((List.range I.n).filterMap f)))) : WE K (tLc wi g tt te vs) e W Q := fun B σ H k s r hk =>
  q B σ H _ s r fun J B1 H1 I W1 e1 s1 ok dp q1 => by
    obtain ⟨hn, f, hs, hq⟩ := q1
    obtain ⟨G, Y, w, hG, hY⟩ := ok
    intro p hp
    have hWp := s1.nnone hp
    have hlen : ∀ i, ((List.range i).filterMap f).length ≤ i := fun i => by
      have h := List.length_filterMap_le f (List.range i)
      rwa [List.length_range] at h
    refine lc_it w (fun i H => ∃ B', Ex B1 B' ∧ Sta K B' (wset W1 p (.lst ((List.range i).filterMap f))) H) ⟨B1, Evl.Ex.refl _, s1.new hp (.lst .nil)⟩ (fun i H _ p' => ?_) ?_ ?_
    · obtain ⟨B', x, s'⟩ := p'
      exact hG B' _ H x s' (I.grow _ _ (Sub.new (Sub.refl _) hWp) dp)
    · rintro i x H H' hi ⟨B', x', s'⟩ y
      obtain ⟨B3, d, e3, s3, hd, r3⟩ := hY i B' _ H x H' hi x' s' (I.grow _ _ (Sub.new (Sub.refl _) hWp) dp) y
      have rw2 := (wipe_r (r.mono e1) vs).mono (x'.trans e3)
      have gg := hs p i d _ hWp hi hd B3 (wipe σ vs) H' x
        (k := fun σ2 H2 => tt σ2 H2 fun b H3 => if b = true then te σ2 H3 fun y H4 => ∃ acc, H4 p = some (.lst acc) ∧ acc.length < sizeLine ∧ ∃ B', Ex B1 B' ∧ Sta K B' (wset W1 p (.lst ((List.range (i + 1)).filterMap f))) (upd H4 p (.lst (acc ++ [y]))) else ∃ B', Ex B1 B' ∧ Sta K B' (wset W1 p (.lst ((List.range (i + 1)).filterMap f))) H3) s3 rw2 r3 ?_
      · refine ow _ _ _ _ _ (fun σ2 H2 w2 q2 => ?_) gg
        rw [wipe_wipe] at w2
        exact ⟨w2, q2⟩
      · intro σ2 B4 H4 e4 W4 x4 s4 r4 q4
        refine q4 B4 σ2 H4 _ s4 r4 fun b B5 H5 W5 x5 s5 q5 => ?_
        cases b with
        | false =>
          obtain ⟨q7, q8⟩ : f i = none ∧ W5 = wset W1 p (.lst ((List.range i).filterMap f)) := by simpa using q5
          subst q8
          refine iteF ⟨B5, ((x'.trans e3).trans x4).trans x5, ?_⟩
          have : [i].filterMap f = [] := by rw [List.filterMap_cons_none q7]; rfl
          rw [List.range_succ, List.filterMap_append, this, List.append_nil]
          exact s5
        | true =>
          have q5 : WE K te e4 W5 _ := q5
          refine iteT (we_subq (we_fz q5) B5 σ2 H5 _ s5 (r4.mono x5) fun v B6 H6 d6 W6 x6 s6 r6 q6 => ?_)
          obtain ⟨q6, rfl⟩ := q6
          obtain ⟨acc, h1, h2⟩ := s6.lst ws_same
          refine ⟨acc, h1, ?_, B6, (((x'.trans e3).trans x4).trans x5).trans x6, ?_⟩
          · rw [h2.len, sizeLine_eq]
            have := hlen i
            omega
          · have s7 := s6.set (c := .lst ((List.range i).filterMap f ++ [d6])) ws_same (.lst (h2.app (.cons r6 .nil)))
            rw [ws_ws] at s7
            have : [i].filterMap f = [d6] := by rw [List.filterMap_cons_some q6]; rfl
            rw [List.range_succ, List.filterMap_append, this]
            exact s7
    · rintro H ⟨B', x', s'⟩
      exact hk _ B' H _ _ (e1.trans x') s' (.raw _) (hq p hWp)
theorem fm_get {α : Type} (M : List α) : (List.range M.length).filterMap (fun i => M[i]?) = M := by
  induction M with
  | nil => rfl
  | cons a M ih =>
    rw [List.length_cons, List.range_succ_eq_map, List.filterMap_cons_some (b := a) (by rfl), List.filterMap_map]
    congr 1
theorem we_lcL {wi : TI} {g : TG} {vs : List Nat} (ow : OwnG g vs) (q : WI K wi e W fun I W1 => I.n ≤ 1000000 ∧ ∃ M : List D, M.length = I.n ∧
    (∀ p i d L, W1 p = none → i < I.n → I.item i = some d → WG K g d (wipeD e vs) (wset W1 p (.lst L)) fun e2 W2 => WE K te e2 W2 (FzQ (SubQ fun y W4 => M[i]? = some y ∧ W4 = wset W1 p (.lst L)))) ∧
    ∀ p, W1 p = none → Q (.ptr p) (wset W1 p (.lst M))) : WE K (tLc wi g tYes te vs) e W Q := by
  refine we_lcF ow fun B σ H k s r hk => q B σ H k s r fun J B' H' I W' x s' ok dp q' => hk J B' H' I W' x s' ok dp ?_
  obtain ⟨hn, M, hM, hs, hq⟩ := q'
  refine ⟨hn, fun i => M[i]?, fun p i d L hp hi hd B σ H v k s r rv hk => ?_, fun p hp => ?_⟩
  · refine hs p i d L hp hi hd B σ H v k s r rv fun σ2 B2 H2 e2 W2 x2 s2 r2 q2 => hk σ2 B2 H2 e2 W2 x2 s2 r2 fun B3 σ3 H3 k3 s3 r3 hk3 => hk3 true B3 H3 W2 (Evl.Ex.refl _) s3 (iteT q2)
  · rw [← hM]
    have : (List.range M.length).filterMap (fun i => M[i]?) = M := fm_get M
    rw [this]
    exact hq p hp
mutual
def pyD : D → Option PyData
  | .raw .non => some .none
  | .raw (.bl b) => some (.bool b)
  | .raw (.int i) => some (.int i)
  | .raw (.str z) => some (.str z)
  | .raw _ => none
  | .lst ds => (pyDs ds).map .list
  | .tup ds => (pyDs ds).map .tuple
  | .scr ns => some (.list (ns.map .int))
  | .obj _ _ _ => none
def pyDs : List D → Option (List PyData)
  | [] => some []
  | d :: r => (pyD d).bind fun p => (pyDs r).map fun q => p :: q
end
theorem pyDs_cons {d : D} {r : List D} {ps : List PyData} (h : pyDs (d :: r) = some ps) : ∃ p q, pyD d = some p ∧ pyDs r = some q ∧ ps = p :: q := by
  rw [pyDs] at h
  cases h1 : pyD d with
  | none => rw [h1] at h; cases h
  | some p =>
    cases h2 : pyDs r with
    | none => rw [h1, h2] at h; cases h
    | some q => rw [h1, h2] at h; cases h; exact ⟨p, q, rfl, rfl, rfl⟩
theorem ints_dp (ns : List Int) : DpAll K H (ns.map V.int) (ns.map PyData.int) := by
  induction ns with
  | nil => exact .nil
  | cons n ns ih => exact .cons (.int n) ih
mutual
theorem rep_dp (e : Ex B H) : ∀ {v : V} {d : D} {p : PyData}, Rep K B v d → pyD d = some p → Dp K H v p
  | _, _, p, .raw v, h => by
    cases v <;> simp [pyD] at h <;> subst h <;> constructor
  | _, _, p, .lst h1 hs, h => by
    simp [pyD] at h
    obtain ⟨ps, h2, rfl⟩ := h
    exact .lst (SqL.of (e _ _ h1)) (reps_dp e hs h2)
  | _, _, p, .tup h1 hs, h => by
    simp [pyD] at h
    obtain ⟨ps, h2, rfl⟩ := h
    exact .tup (ex_st e h1) (reps_dp e hs h2)
  | _, _, p, .obj .., h => by simp [pyD] at h
  | _, _, p, .scr h1, h => by
    simp [pyD] at h
    subst h
    exact .lst (ex_sq e h1) (ints_dp _)
theorem reps_dp (e : Ex B H) : ∀ {vs : List V} {ds : List D} {ps : List PyData}, Reps K B vs ds → pyDs ds = some ps → DpAll K H vs ps
  | _, _, ps, .nil, h => by simp [pyDs] at h; subst h; exact .nil
  | _, _, ps, .cons h1 h2, h => by
    obtain ⟨p, q, h3, h4, e2⟩ := pyDs_cons h
    subst e2
    exact .cons (rep_dp e h1 h3) (reps_dp e h2 h4)
end
inductive AtD (W : Wd) : D → D → Prop
  | id (d : D) : AtD W d d
  | own {a : Addr} {ds : List D} (h : W a = some (.lst ds)) : AtD W (.raw (.ref a)) (.lst ds)
theorem wt_yes {QB : Bool → Wd → Prop} (q : QB true W) : WT K tYes e W QB := fun B σ H k s r hk => hk true B H W (Evl.Ex.refl _) s q
theorem ws_lock {a : Addr} {kvs : List (Key × D)} (h : W a = some (.dct kvs)) (q : ∀ o u, WS K ts e (wset W a (.lock o u kvs)) { nx := fun e' W' => W' a = some (.lock o u kvs) ∧ E.nx e' (wset W' a (.dct kvs)), rt := fun d W' => W' a = some (.lock o u kvs) ∧ E.rt d (wset W' a (.dct kvs)), bk := fun e' W' => W' a = some (.lock o u kvs) ∧ E.bk e' (wset W' a (.dct kvs)), ct := fun e' W' => W' a = some (.lock o u kvs) ∧ E.ct e' (wset W' a (.dct kvs)) }) : WS K (tLock ts) e W E := fun Dn B σ H s r h1 h2 h3 h4 => by
  obtain ⟨xs, g1, g2⟩ := s.dct h
  refine ⟨a, .dK xs, g1, trivial, fun od => ?_⟩
  have s2 := s.set (c := .lock od (.dK xs) kvs) h (.lock g2)
  have un : ∀ {B' H' : Hp} {W' : Wd}, Ex B B' → Sta K B' W' H' → W' a = some (.lock od (.dK xs) kvs) → H' a = some (.frz od (.dK xs)) ∧ Sta K B' (wset W' a (.dct kvs)) (upd H' a (.dK xs)) := fun x s' w => by
    obtain ⟨r, e, k1, k2⟩ := s'.locked w
    cases e
    exact ⟨k1, s'.set w (.dct k2)⟩
  exact q od (.dK xs) _ B σ _ s2 r (fun σ' B' H' e' W' x s' r' q' => ⟨(un x s' q'.1).1, h1 σ' B' _ e' _ x (un x s' q'.1).2 r' q'.2⟩) (fun v B' H' d W' x s' r' q' => ⟨(un x s' q'.1).1, h2 v B' _ d _ x (un x s' q'.1).2 r' q'.2⟩) (fun σ' B' H' e' W' x s' r' q' => ⟨(un x s' q'.1).1, h3 σ' B' _ e' _ x (un x s' q'.1).2 r' q'.2⟩) fun σ' B' H' e' W' x s' r' q' => ⟨(un x s' q'.1).1, h4 σ' B' _ e' _ x (un x s' q'.1).2 r' q'.2⟩
end
end
local macro_rules | `(tactic| walk_at "own") => `(tactic| first | ((with_reducible refine' own_name ?h); (case h => decide)) | ((with_reducible refine' own_tup ?h); (case h => walk_at "own")) | ((with_reducible refine' own_cons ?h1 ?h2); (case h1 => walk_at "own"); (case h2 => walk_at "own")) | with_reducible exact own_nil)
section
open PySem L2
section
variable {K : PySem.W.Frag} {e : Env} {W : Wd} {a b : Addr} {c u : Cell} {Q : KD} {x y d : D} {ds es : List D} {tl : TA} {te : TE}
theorem ne_w2 (h' : W b = none) (h : W a = some c) : a ≠ b := ne_w h h'
theorem ne_w2s (h' : W b = none) (h : W a = some c) : b ≠ a := Ne.symm (ne_w h h')
theorem ws_lk (h : b ≠ a) (h2 : W b = some u) : wset W a c b = some u := by rw [ws_ne h]; exact h2
theorem we_lk (h : b ≠ a) (h2 : W b = some u) : wer W a b = some u := by rw [we_ne h]; exact h2
theorem ws_non (h : wset W a c b = none) : W b = none := by
  by_cases z : b = a
  · subst z; rw [ws_same] at h; cases h
  · rwa [ws_ne z] at h
theorem putD_nil {f : Str} {v : D} : putD f v [] = [(f, v)] := rfl
theorem putD_hit {f : Str} {v w : D} {r : List (Str × D)} : putD f v ((f, w) :: r) = (f, v) :: r := by
  show (if f = f then _ else _) = _
  rw [if_pos rfl]
theorem putD_miss {f k : Str} {v w : D} {r r' : List (Str × D)} (h : ¬ k = f) (e : putD f v r = r') : putD f v ((k, w) :: r) = (k, w) :: r' := by
  show (if k = f then _ else (k, w) :: putD f v r) = _
  rw [if_neg h, e]
theorem wg_tupL {n : Nat} {u : TGs} {QE : Env → Wd → Prop} {xs : List D} (q : xs.length = n ∧ WGs K u xs e W QE) : WG K (gTup K n u) (.tup xs) e W QE := wg_tup q.1 q.2
theorem d_v2 {P : D → D → Prop} (q : P x y) : ∃ v w, [x, y] = [v, w] ∧ P v w := ⟨x, y, rfl, q⟩
theorem rc_fz {r : List V → Hp → VK → Prop} {xs : List D} (q : RC K r xs W (FzQ Q)) : RC K r xs W Q := fun B H vs k s r1 hk => q B H vs k s r1 fun v B' H' d W' e1 s1 r1 q1 => fz_sem s1 r1 q1 fun v2 B2 H2 d2 W2 e2 s2 r2 q2 => hk v2 B2 H2 d2 W2 (e1.trans e2) s2 r2 q2
theorem rd_fz {r : R2} (q : RD K r x y W (FzQ Q)) : RD K r x y W Q := fun B H v w k s r1 r2 hk => q B H v w k s r1 r2 fun v B' H' d W' e1 s1 r1 q1 => fz_sem s1 r1 q1 fun v2 B2 H2 d2 W2 e2 s2 r2 q2 => hk v2 B2 H2 d2 W2 (e1.trans e2) s2 r2 q2
theorem rs_fz {r : V → Option Int → Option Int → Hp → VK → Prop} {lo hi : Option Int} (q : RS K r x lo hi W (FzQ Q)) : RS K r x lo hi W Q := fun B H v k s r1 hk => q B H v k s r1 fun v B' H' d W' e1 s1 r1 q1 => fz_sem s1 r1 q1 fun v2 B2 H2 d2 W2 e2 s2 r2 q2 => hk v2 B2 H2 d2 W2 (e1.trans e2) s2 r2 q2
theorem we_lstF (q : WA K tl e W fun ds W1 => ds.length ≤ sizeLine ∧ ∀ p, W1 p = none → FzQ Q (.ptr p) (wset W1 p (.lst ds))) : WE K (tLst tl) e W Q := we_fz (we_lst q)
theorem d_catF (h1 : CatD W x ds) (h2 : CatD W y es) (hl : ds.length + es.length ≤ sizeLine) (q : ∀ p, W p = none → FzQ Q (.ptr p) (wset W p (.lst (ds ++ es)))) : RD K rCat x y W Q := rd_fz (d_cat h1 h2 hl q)
theorem d_catQF (h1 : SeqD W x ds) (h2 : SeqD W y es) (hl : ds.length + es.length ≤ sizeLine) (q : ∀ p, W p = none → FzQ Q (.ptr p) (wset W p (.lst (ds ++ es)))) : RD K (rCatQ K) x y W Q := rd_fz (d_catQ h1 h2 hl q)
theorem d_listF (h : SeqD W x ds) (q : ∀ p, W p = none → FzQ Q (.ptr p) (wset W p (.lst ds))) : RC K (rListOf K) [x] W Q := rc_fz (d_list h q)
theorem d_listTF (q : ∀ p, W p = none → FzQ Q (.ptr p) (wset W p (.lst ds))) : RC K (rListOf K) [.tup ds] W Q := rc_fz (d_listT q)
theorem d_slLF {lo hi : Option Int} (h : SeqD W x ds) (q : ∀ p, W p = none → FzQ Q (.ptr p) (wset W p (.lst (cutD ds lo hi)))) : RS K (rSlL K) x lo hi W Q := rs_fz (d_slL h q)
theorem we_lcLF {wi : TI} {g : TG} {vs : List Nat} (ow : OwnG g vs) (q : WI K wi e W fun I W1 => I.n ≤ 1000000 ∧ ∃ M : List D, M.length = I.n ∧
    (∀ p i d L, W1 p = none → i < I.n → I.item i = some d → WG K g d (wipeD e vs) (wset W1 p (.lst L)) fun e2 W2 => WE K te e2 W2 (FzQ (SubQ fun y W4 => M[i]? = some y ∧ W4 = wset W1 p (.lst L)))) ∧
    ∀ p, W1 p = none → FzQ Q (.ptr p) (wset W1 p (.lst M))) : WE K (tLc wi g tYes te vs) e W Q := we_fz (we_lcL ow q)
theorem ret_own {W' : Wd} {p : Addr} {c : Cell} {P : KD} (m : Sub W W') (q : P (.ptr p) (wset W p c)) : FzQ (SubQ P) (.raw (.ref p)) (wset W' p c) := .inl ⟨wset W p c, Vs.of m.set, q⟩
theorem ret_frz {W' : Wd} {p : Addr} {P : KD} (h : W' p = none) (m : Sub W W') (q : P (.lst ds) W) : FzQ (SubQ P) (.raw (.ref p)) (wset W' p (.lst ds)) := fz_newS m h q
theorem ret_dat {W' : Wd} {P : KD} (m : Sub W W') (q : P d W) : FzQ (SubQ P) d W' := .inl ⟨W, Vs.of m, q⟩
theorem ret_vs {W' : Wd} {P : KD} (m : Vs W' W) (q : P d W) : FzQ (SubQ P) d W' := .inl ⟨W, m, q⟩
theorem we_callF {p : PF} (q : WA K tl e W fun ds W1 => p ds W1 (FzQ Q)) : WE K (tCall (lift K p) [] E0 tl) e W Q := we_fz (we_call q)
theorem inV_str (h : Str) (l : List Str) : inV (.str h) (l.map V.str) = dB (h ∈ l) := by
  unfold inV
  rw [List.any_map, dB_eq]
  induction l with
  | nil => rfl
  | cons a l ih =>
    rw [List.any_cons, ih]
    show ((a == h) || _) = _
    by_cases z : a = h
    · subst z; simp
    · have z' : ¬ h = a := fun q => z q.symm
      simp [z, z', beq_eq_false_iff_ne.mpr z]
theorem d_inTf {h : Str} {l : List Str} (q : Q (.raw (.bl (dB (h ∈ l)))) W) : RD K (rIn K false) (.raw (.str h)) (.tup (l.map D.str)) W Q :=
  d_inV (l := l.map V.str) (.inr (by rw [List.map_map]; rfl)) rfl (by rw [List.all_map]; exact List.all_eq_true.mpr fun _ _ => rfl) (by rw [inV_str]; exact q)
theorem at0 {α : Type} {x : α} {l : List α} : atI (x :: l) 0 = some x := atI_nat (j := 0) rfl
theorem at_last {α : Type} {x : α} {l : List α} : atI (l ++ [x]) (-1) = some x := by
  unfold atI ixN
  rw [if_neg (by decide), if_pos (by rw [List.length_append, List.length_singleton]; omega)]
  show (l ++ [x])[((-1 : Int) + ((l ++ [x]).length : Nat)).toNat]? = _
  rw [show ((-1 : Int) + ((l ++ [x]).length : Nat)).toNat = l.length by rw [List.length_append, List.length_singleton]; omega]
  simp
theorem lift_vs {p : PF} {t : TS} {N : List Str} {vs : List V} {H : Hp} {Qv : VK} {Ex : XK} (h : lift K p vs H Qv Ex) (g : ∀ ds W Q, p ds W Q → WS K t (startD N ds) W ⟨fun _ W' => SubQ Q .non W', Q, fun _ _ => False, fun _ _ => False⟩) :
    t { nx := fun _ H' => Qv .non H', rt := Qv } (L2.start N vs) H := by
  obtain ⟨B, W, ds, Q0, s, r, hp, k⟩ := h
  exact g ds W Q0 hp { nx := fun _ H' => Qv .non H', rt := Qv } B (L2.start N vs) H s (start_r r) (fun σ' B' H' e' W' x s' _ q => by
    obtain ⟨W2, m, q⟩ := q
    exact k .non B' H' .non W2 x (m _ _ _ s') (.raw _) q) (fun v B' H' d W' x s' r' q => k v B' H' d W' x s' r' q) (fun _ _ _ _ _ _ _ _ q => q.elim) (fun _ _ _ _ _ _ _ _ q => q.elim)
theorem sub_vs {W' : Wd} {P : KD} (m : Vs W' W) (q : P d W) : SubQ P d W' := ⟨W, m, q⟩
section
variable {QI : ItD → Wd → Prop} {H B : Hp}
def itI (a : Addr) (o : Obj) (u : HO) (q : List (Key × D)) : ItD := ⟨q.length, fun W => W a = some (.lock o u q), fun _ _ m h => m _ _ h, fun i => q[i]?.map fun kv => .tup [kD kv.1, kv.2]⟩
theorem repP_get {κ : Type} {S : Hp} : ∀ {r : List (κ × V)} {q : List (κ × D)} {i : Nat} {k : κ} {v : V}, RepP K S r q → r[i]? = some (k, v) → ∃ d, q[i]? = some (k, d) ∧ Rep K S v d
  | _, _, _, _, _, .nil, h => by simp at h
  | _, _, 0, _, _, .cons h _, e => by simp at e; obtain ⟨rfl, rfl⟩ := e; exact ⟨_, rfl, h⟩
  | _, _, i + 1, k, v, .cons _ t, e => by
    obtain ⟨d, h1, h2⟩ := repP_get (i := i) (k := k) (v := v) t (by simpa using e)
    exact ⟨d, by simpa using h1, h2⟩
theorem wi_items (q : WE K te e W fun x W1 => ∃ a o u q, x = .ptr a ∧ W1 a = some (.lock o u q) ∧ QI (itI a o u q) W1) : WI K (iItems te) e W QI := fun B σ H k s r hk =>
  q B σ H _ s r fun v B1 H1 d W1 e1 s1 r1 q1 => by
    obtain ⟨a, o, u, q, rfl, h1, q1⟩ := q1
    cases r1
    obtain ⟨kvs, rfl, g1, g2⟩ := s1.locked h1
    refine ⟨a, o, kvs, rfl, g1, hk _ B1 H1 (itI a o (.dK kvs) q) W1 e1 s1 ⟨fun H => H a = some (.frz o (.dK kvs)), YPair (fun i => kvs[i]?.map fun kv => kV kv.1) (fun i => kvs[i]?.map Prod.snd), ?_, fun B2 W2 H2 e2 s2 dp => ?_, fun i B2 W2 H2 y H3 hi e2 s2 dp w => ?_⟩ h1 q1⟩
    · have := walk_items (d := a) (o := o) (kvs := kvs)
      rw [g2.len] at this
      exact this
    · obtain ⟨r, e, g, _⟩ := s2.locked dp
      cases e
      exact g
    · obtain ⟨T, u, w', rfl, hT, rfl, w1, w2⟩ := w
      obtain ⟨r, e, g, g3⟩ := s2.locked dp
      cases e
      obtain ⟨kv, h3, h4⟩ := Option.map_eq_some_iff.mp w1
      have w2 : Option.map Prod.snd kvs[i]? = some w' := w2
      rw [h3] at w2
      cases w2
      subst h4
      obtain ⟨d, h5, h6⟩ := repP_get g3 h3
      obtain ⟨B3, e3, s3, r3⟩ := pair_sem s2 hT (.raw (kV kv.1)) h6
      exact ⟨B3, _, e3, s3, by show Option.map _ q[i]? = _; rw [h5]; rfl, r3⟩
theorem d_it {P : Addr → Obj → HO → List (Key × D) → Prop} {o : Obj} {u : HO} {q : List (Key × D)} (h : W a = some (.lock o u q)) (k : P a o u q) : ∃ a' o u q, D.raw (.ref a) = .ptr a' ∧ W a' = some (.lock o u q) ∧ P a' o u q := ⟨a, o, u, q, rfl, h, k⟩
end
inductive MAt (W : Wd) (a C : Addr) (m : Str) : Prop
  | ins {fs : List (Str × D)} (h : W a = some (.ins C fs)) (l : fs.lookup m = none) : MAt W a C m
  | abs {n : Nat} {X : List Addr → Wd} (h : W a = some (.abs n X)) (k : ∀ F, F.length = n → F.head? = some a → ∃ fs, X F a = some (.ins C fs) ∧ fs.lookup m = none) : MAt W a C m
theorem MAt.sem {B H : Hp} {a C : Addr} {m : Str} (s : Sta K B W H) (h : MAt W a C m) : ∃ dx fs, H a = some (.ins C dx fs) ∧ fs.lookup m = none := by
  cases h with
  | ins h l =>
    obtain ⟨dx, r, h1, h2⟩ := s.ins h
    exact ⟨dx, r, h1, h2.lookN l⟩
  | abs h k =>
    obtain ⟨F, h1, h2, h3, h4, s2⟩ := s.open h
    obtain ⟨fs, k1, k2⟩ := k F h1 h3
    obtain ⟨dx, r, g1, g2⟩ := s2.ins (by rw [aw_in (head_mem h3)]; exact k1)
    exact ⟨dx, r, g1, g2.lookN k2⟩
theorem we_methI {C : Addr} {m : Str} {p : PF} {ta : TE} (q : WE K ta e W fun x W1 => ∃ a, x = .ptr a ∧ MAt W1 a C m ∧ WA K tl e W1 fun ds W2 => p (x :: ds) W2 Q) : WE K (tMeth C m (lift K p) [] E0 ta tl) e W Q := fun B σ H k s r hk =>
  q B σ H _ s r fun v B1 H1 d W1 e1 s1 r1 q1 => by
    obtain ⟨a, rfl, h1, q1⟩ := q1
    obtain ⟨dx, fs', h3, h4⟩ := h1.sem s1
    cases r1
    refine ⟨a, dx, fs', rfl, h3, h4, q1 B1 σ H1 _ s1 (r.mono e1) fun vs B2 H2 ds W2 e2 s2 r2 q2 => ?_⟩
    rw [List.append_nil]
    exact ⟨B2, W2, _, Q, s2, .cons (.raw _) r2, q2, fun v B' H' d W' e3 s3 r3 q3 => hk v B' H' d W' ((e1.trans e2).trans e3) s3 r3 q3⟩
theorem d_mat {a C : Addr} {m : Str} {P : Addr → Prop} (h : MAt W a C m) (q : P a) : ∃ a', D.raw (.ref a) = .ptr a' ∧ MAt W a' C m ∧ P a' := ⟨a, rfl, h, q⟩
def W0 : Wd := fun _ => none
theorem law_pure {t : TS} {N : List Str} {vs : List V} {H : Hp} {Qv : VK} {Ex : XK} (h : spLaw K vs H Qv Ex) (g : ∀ ns : List Int, ns.length ≤ 63 → WS K t (startD N [.scr ns]) W0 ⟨fun _ _ => False, fun r _ => r = .raw (.bl true), fun _ _ => False, fun _ _ => False⟩) :
    t { nx := fun _ H' => Qv .non H', rt := Qv } (L2.start N vs) H := by
  obtain ⟨a, ns, rfl, hS, hl, k⟩ := h
  refine g ns hl { nx := fun _ H' => Qv .non H', rt := Qv } H (L2.start N [.ref a]) H (.of ⟨Evl.Ex.refl _, fun _ _ q => by cases q⟩) (start_r (.cons (.scr hS) .nil)) (fun _ _ _ _ _ _ _ _ q => q.elim) (fun v B' H' r W' _ _ r' q => ?_) (fun _ _ _ _ _ _ _ _ q => q.elim) (fun _ _ _ _ _ _ _ _ q => q.elim)
  subst q
  cases r'
  exact k H'
end
end
set_option Elab.async false
set_option linter.all false
set_option maxRecDepth 100000
set_option maxHeartbeats 1000000
set_option autoImplicit false
local macro_rules | `(tactic| walk_at "wne") => `(tactic| first | with_reducible assumption | exact Ne.symm (by with_reducible assumption) | ((refine' ne_w2 ?h2 ?h1); (case h2 => with_reducible assumption); (case h1 => walk_at "wk")) | ((refine' ne_w2s ?h2 ?h1); (case h2 => with_reducible assumption); (case h1 => walk_at "wk")))
local macro_rules | `(tactic| walk_at "wk") => `(tactic| first | with_reducible assumption | with_reducible exact ws_same | ((with_reducible refine' ws_lk ?h1 ?h2); (case h1 => walk_at "wne"); (case h2 => walk_at "wk")) | ((with_reducible refine' we_lk ?h1 ?h2); (case h1 => walk_at "wne"); (case h2 => walk_at "wk")))
local macro_rules | `(tactic| walk_at "wn") => `(tactic| first | with_reducible assumption | ((with_reducible refine' ws_non ?h); (case h => with_reducible assumption)) | ((with_reducible refine' ws_non (ws_non ?h)); (case h => with_reducible assumption)) | ((with_reducible refine' ws_non (ws_non (ws_non ?h))); (case h => with_reducible assumption)))
local macro_rules | `(tactic| walk_at "mputf") => `(tactic| first | exact putD_nil | exact putD_hit | exact putD_miss (by decide) (by walk_at "mputf"))
local macro_rules | `(tactic| walk_at "mst") => `(tactic| first
  | with_reducible refine' ws_seq ?_
  | with_reducible refine' we_op ?_
  | ((with_reducible refine' we_var ?h ?_); (case h => rfl))
  | with_reducible refine' we_c ?_
  | with_reducible refine' d_i0 ?_
  | with_reducible refine' wa_cons ?_
  | with_reducible refine' wa_nil ?_
  | with_reducible refine' ws_asg ?_
  | ((with_reducible refine' wg_name ?e ?_); (case e => walk_at "set"))
  | with_reducible refine' ws_if ?_
  | with_reducible refine' we_test ?_
  | with_reducible refine' we_tB ?_
  | with_reducible refine' we_bl ?_
  | with_reducible refine' d_eqI ?_
  | with_reducible refine' d_neI ?_
  | with_reducible refine' d_eqS ?_
  | with_reducible refine' d_neS ?_
  | with_reducible refine' ws_ret ?_
  | with_reducible refine' ws_for ?_
  | with_reducible refine' we_fld ?_
  | ((with_reducible refine' d_fldW ?h ?c ?n ?l ?_); (case h => walk_at "wk"); (case c => assumption); (case n => assumption); (case l => rfl))
  | ((with_reducible refine' d_fldO ?c ?n ?l ?_); (case c => assumption); (case n => assumption); (case l => rfl))
  | with_reducible refine' ws_fld ?_
  | ((with_reducible refine' d_sfld ?h ?c ?n ?l ?he ?_); (case h => walk_at "wk"); (case c => assumption); (case n => assumption); (case he => walk_at "mputf"); (case l => (simp only [List.length_cons, List.length_nil]; omega)))
  | with_reducible refine' we_dget ?_
  | with_reducible refine' we_din ?_
  | with_reducible refine' we_dnotin ?_
  | ((with_reducible refine' d_dinI ?h ?_); (case h => walk_at "dd"))
  | ((with_reducible refine' d_dinS ?h ?_); (case h => walk_at "dd"))
  | with_reducible refine' ws_dput ?_
  | with_reducible refine' we_dnew ?_
  | with_reducible refine' we_bm ?_
  | with_reducible refine' we_bm0 ?_
  | ((with_reducible refine' d_seq ?h ?_); (case h => walk_at "sd"))
  | with_reducible refine' wi_list ?_
  | ((with_reducible refine' d_sq ?h ?_); (case h => walk_at "sd"))
  | with_reducible refine' wi_tup ?_
  | with_reducible refine' d_tp ?_
  | with_reducible refine' wi_str ?_
  | with_reducible refine' d_st ?_
  | with_reducible refine' wi_rng1 ?_
  | ((with_reducible refine' d_r1 ?h ?_); (case h => omega))
  | with_reducible refine' wi_rng2 ?_
  | ((with_reducible refine' d_r2 ?h ?_); (case h => omega))
  | with_reducible refine' wi_rng3 ?_
  | with_reducible refine' wi_enum ?_
  | with_reducible refine' wi_rev ?_
  | ((with_reducible refine' d_one ?h ?_); (case h => walk_at "sd"))
  | with_reducible refine' wi_zip ?_
  | ((with_reducible refine' d_two ?h ?h2 ?_); (case h => walk_at "sd"); (case h2 => walk_at "sd"))
  | with_reducible refine' wg_tupL ?_
  | with_reducible refine' wgs_cons ?_
  | with_reducible refine' wgs_nil ?_
  | with_reducible refine' we_m1 ?_
  | with_reducible refine' d_isS ?_
  | with_reducible refine' ws_next ?_
  | with_reducible refine' we_cb ?_
  | with_reducible refine' we_and ?_
  | with_reducible refine' we_or ?_
  | with_reducible refine' we_not ?_
  | with_reducible refine' we_andV ?_
  | with_reducible refine' we_orV ?_
  | with_reducible refine' we_notV ?_
  | with_reducible refine' we_if ?_
  | with_reducible refine' ws_drop ?_
  | with_reducible refine' we_un ?_
  | with_reducible refine' d_u ?_
  | with_reducible refine' d_isNN ?_
  | with_reducible refine' d_isNI ?_
  | with_reducible refine' d_isNS ?_
  | with_reducible refine' d_isNR ?_
  | with_reducible refine' d_notNN ?_
  | with_reducible refine' d_notNI ?_
  | with_reducible refine' d_notNS ?_
  | with_reducible refine' d_notNR ?_
  | with_reducible refine' d_int1 ?_
  | with_reducible refine' d_int1b ?_
  | with_reducible refine' we_tup ?_
  | with_reducible refine' we_lstF ?_
  | with_reducible refine' we_sl ?_
  | with_reducible refine' wo_no ?_
  | with_reducible refine' wo_part ?_
  | with_reducible refine' wo_i ?_
  | with_reducible refine' ws_retN ?_
  | with_reducible refine' ws_brk ?_
  | with_reducible refine' ws_cont ?_
  | with_reducible refine' we_chain ?_
  | with_reducible refine' d_lt ?_
  | with_reducible refine' d_le ?_
  | with_reducible refine' d_gt ?_
  | with_reducible refine' d_ge ?_
  | with_reducible refine' d_ltS ?_
  | with_reducible refine' d_leS ?_
  | with_reducible refine' d_gtS ?_
  | with_reducible refine' d_geS ?_
  | ((with_reducible refine' d_addS ?h ?_); (case h => walk_at "msm"))
  | with_reducible refine' d_inS ?_
  | with_reducible refine' d_ninS ?_
  | with_reducible refine' ws_par ?_
  | with_reducible refine' d_v2 ?_
  | with_reducible refine' d_max2 ?_
  | with_reducible refine' d_min2 ?_
  | with_reducible refine' we_methI ?_
  | ((with_reducible refine' d_mat ?h ?_); (case h => walk_at "mat"))
  | ((with_reducible refine' d_isiI ?h ?_); (case h => walk_at "kit"))
  | ((with_reducible refine' d_isiB ?h ?_); (case h => walk_at "kit"))
  | ((with_reducible refine' d_isiN ?h ?_); (case h => walk_at "kit"))
  | ((with_reducible refine' d_isiS ?h ?_); (case h => walk_at "kit"))
  | ((with_reducible refine' d_isiT ?h ?_); (case h => walk_at "kit"))
  | ((with_reducible refine' d_isiL ?h ?hk ?_); (case h => walk_at "sd"); (case hk => walk_at "kit"))
  | ((with_reducible refine' d_i ?h ?_); (case h => walk_at "sc"))
  | with_reducible refine' w_ttL ?_
  | with_reducible refine' w_ffL ?_
  | ((with_reducible refine' w_tt ?h ?_); (case h => first | exact dB_t (by decide) | exact nB_t (by decide) | decide))
  | ((with_reducible refine' w_ff ?h ?_); (case h => first | exact dB_f (by decide) | exact nB_f (by decide) | decide))
  | with_reducible refine' d_lenT ?_
  | ((with_reducible refine' d_lenL ?h ?_); (case h => walk_at "sd"))
  | ((with_reducible refine' d_lenD ?h ?_); (case h => walk_at "wk"))
  | ((with_reducible refine' d_slLF ?h ?_); (case h => walk_at "sd"))
  | ((with_reducible refine' ws_aug ?h ?_); (case h => rfl))
  | with_reducible refine' d_ip ?_
  | ((with_reducible refine' d_ixL ?h1 ?h2 ?_); (case h1 => walk_at "sd"); (case h2 => rfl))
  | ((with_reducible refine' d_ixT ?h2 ?_); (case h2 => rfl))
  | ((with_reducible refine' d_ixAL ?h1 ?h2 ?_); (case h1 => walk_at "sd"); (case h2 => rfl))
  | ((with_reducible refine' d_ixAT ?h2 ?_); (case h2 => rfl))
  | ((with_reducible refine' d_lenStr ?h ?_); (case h => walk_at "msm"))
  | ((with_reducible refine' d_slS ?h ?_); (case h => walk_at "msm"))
  | ((with_reducible refine' d_sz ?h ?_); (case h => walk_at "msm"))
  | ((with_reducible refine' d_catF ?h1 ?h2 ?h3 ?_); (case h1 => walk_at "cd"); (case h2 => walk_at "cd"); (case h3 => walk_at "msm"))
  | ((with_reducible refine' d_catQF ?h1 ?h2 ?h3 ?_); (case h1 => walk_at "sd"); (case h2 => walk_at "sd"); (case h3 => walk_at "msm"))
  | ((with_reducible refine' d_app ?h ?hl ?_); (case h => walk_at "wk"); (case hl => walk_at "msm"))
  | ((with_reducible refine' d_ext ?h ?h2 ?hl ?_); (case h => walk_at "wk"); (case h2 => walk_at "cd"); (case hl => walk_at "msm"))
  | ((with_reducible refine' d_clr ?h ?_); (case h => walk_at "wk"))
  | ((with_reducible refine' d_rev ?h ?_); (case h => walk_at "wk"))
  | ((with_reducible refine' d_listF ?h ?_); (case h => walk_at "sd"))
  | with_reducible refine' d_listTF ?_
  | ((with_reducible refine' we_lcLF ?ow ?_); (case ow => walk_at "own"))
  | with_reducible refine' wt_yes ?_
  | with_reducible refine' wi_items ?_
  | ((with_reducible refine' d_it ?h ?_); (case h => walk_at "wk"))
  | with_reducible rw [ws_ws])
section
open PySem L2
local macro_rules | `(tactic| walk_at "ne") => `(tactic| first | assumption | exact Ne.symm (by assumption) | ((refine' ne2 ?h1 ?h2); (case h1 => assumption); (case h2 => walk_at "hk")) | ((refine' ne2s ?h1 ?h2); (case h1 => assumption); (case h2 => walk_at "hk")) | exact ne_head (by assumption) | exact ne_of (by assumption) (by assumption) (by intro z; cases z))
local macro_rules | `(tactic| walk_at "hk") => `(tactic| first | assumption | with_reducible exact upd_same | ((with_reducible refine' up_ne ?h1 ?h2); (case h1 => walk_at "ne"); (case h2 => walk_at "hk")) | ((with_reducible refine' ex_at ?h1 ?h2); (case h1 => assumption); (case h2 => walk_at "hk")))
local macro_rules | `(tactic| walk_at "sq") => `(tactic| first | assumption | ((with_reducible refine' SqL.of ?h); (case h => walk_at "hk")) | ((with_reducible refine' ex_sq ?h1 ?h2); (case h1 => assumption); (case h2 => walk_at "sq")))
local macro_rules | `(tactic| walk_at "st") => `(tactic| first | assumption | ((with_reducible refine' SqT.of ?h); (case h => walk_at "hk")) | ((with_reducible refine' ex_st ?h1 ?h2); (case h1 => assumption); (case h2 => walk_at "st")))
local macro_rules | `(tactic| walk_at "sc") => `(tactic| first | assumption | decide | omega | (unfold CMul; omega) | (unfold CDiv; omega) | (unfold CPow; decide) | (unfold CDiv; decide))
local macro_rules | `(tactic| walk_at "go") => `(tactic| (repeat (first | walk_at "step" | walk_at "callx")))
local macro_rules | `(tactic| walk_at "len") => `(tactic| first
  | (obtain ⟨rfl, _⟩ := h; rfl) | (obtain ⟨_, rfl, _⟩ := h; rfl) | (obtain ⟨_, _, rfl, _⟩ := h; rfl) | (obtain ⟨_, _, _, rfl, _⟩ := h; rfl) | (obtain ⟨_, _, _, _, rfl, _⟩ := h; rfl)
  | (obtain ⟨_, _, _, _, _, rfl, _⟩ := h; rfl) | (obtain ⟨_, _, _, _, _, _, rfl, _⟩ := h; rfl) | (obtain ⟨_, _, _, _, _, _, _, rfl, _⟩ := h; rfl) | (obtain ⟨_, _, _, _, _, _, _, _, rfl, _⟩ := h; rfl)
  | (obtain ⟨_, _, _, _, _, _, _, _, _, rfl, _⟩ := h; rfl) | (obtain ⟨_, _, _, _, _, _, _, _, _, _, rfl, _⟩ := h; rfl))
local macro_rules | `(tactic| walk_at "sd") => `(tactic| first | with_reducible assumption | with_reducible exact SeqD.lst _ | with_reducible exact SeqD.scr _ | ((with_reducible refine' SeqD.own ?h); (case h => walk_at "wk")) | ((with_reducible refine' SeqD.er ?m ?h); (case h => with_reducible assumption); (case m => walk_at "sub")))
local macro_rules | `(tactic| walk_at "cd") => `(tactic| first | with_reducible assumption | with_reducible exact CatD.lst _ | ((with_reducible refine' CatD.own ?h); (case h => walk_at "wk")))
local macro_rules | `(tactic| walk_at "le") => `(tactic| repeat (first | exact EnvLe.nil | exact EnvLe.refl _ | with_reducible refine' EnvLe.cons (.inl rfl) ?_ | with_reducible refine' EnvLe.cons (.inr rfl) ?_))
local macro_rules | `(tactic| walk_at "mat") => `(tactic| first | ((with_reducible refine' MAt.ins ?h ?l); (case h => walk_at "wk"); (case l => rfl)) | ((with_reducible refine' log_mat ?h ?l ?l2); (case h => walk_at "wk"); (case l => decide +kernel); (case l2 => decide +kernel)))
local macro_rules | `(tactic| walk_at "mkp") => `(tactic| first | with_reducible refine' mk_Let ?_ | with_reducible refine' mk_Reckon ?_ | with_reducible refine' mk_Take ?_ | with_reducible refine' mk_Put ?_ | with_reducible refine' mk_If ?_ | with_reducible refine' mk_Either ?_ | with_reducible refine' mk_Try ?_ | with_reducible refine' mk_Throw ?_ | with_reducible refine' mk_Wait ?_ | with_reducible refine' ex_si ?_ | with_reducible refine' ex_ss ?_ | with_reducible refine' ex_ssss ?_)
local macro_rules | `(tactic| walk_at "isim") => `(tactic| first | ((with_reducible refine' m_isi_let_ ?t ?k ?h ?e ?_); (case t => assumption); (case e => assumption); (case h => rfl)) | ((with_reducible refine' m_isi_rk ?t ?k ?h ?e ?_); (case t => assumption); (case e => assumption); (case h => rfl)) | ((with_reducible refine' m_isi_take ?t ?k ?h ?e ?_); (case t => assumption); (case e => assumption); (case h => rfl)) | ((with_reducible refine' m_isi_put ?t ?k ?h ?e ?_); (case t => assumption); (case e => assumption); (case h => rfl)) | ((with_reducible refine' m_isi_throw ?t ?k ?h ?e ?_); (case t => assumption); (case e => assumption); (case h => rfl)) | ((with_reducible refine' m_isi_iff ?t ?k ?h ?e ?_); (case t => assumption); (case e => assumption); (case h => rfl)) | ((with_reducible refine' m_isi_eith ?t ?k ?h ?e ?_); (case t => assumption); (case e => assumption); (case h => rfl)) | ((with_reducible refine' m_isi_tryy ?t ?k ?h ?e ?_); (case t => assumption); (case e => assumption); (case h => rfl)))
def tMakeO (C : Addr) : TE := fun _ H Q => ∀ x dx, H x = none → H dx = none → dx ≠ x → Q (.ref x) (upd (upd H dx (.own x)) x (.ins C dx []))
structure MkO (K : PySem.W.Frag) (C : Addr) : Prop where
  makes : PySem.W.makesIn K C = true
  init : PySem.W.findIn K (.ref C) "__init__" = some (some (.builtin "object.__init__"))
  kp : PySem.W.keepIn K (.ref C) = true
section
open PySem.W PyProof.Rows PySem.Spec
variable {X : Cx} {C : Addr} {x : Str} {p pos : Pos}
theorem pe_makeO (M : MkO X.K C) (hg : Gl X x) (hm : X.mg x = some (.ref C)) (hdb : (x == ("__debug__" : Str)) = false := by decide) : PE X (.Call (.Name x p) [] [] pos) (tMakeO C) := by
  refine ⟨fun pins s σ H Q I h => ?_⟩
  refine wpAny_Call_Name_kw (ld_glob I hg hm ?_ hdb)
  refine PySem.W.callWith_K0 I.kIn M.kp ?_
  have I2 := Inv.made (C := C) I
  have z : EP X pins σ Q (.ref (s.heap.objs.size + 1)) { s with heap := (s.heap.push PySem.W.emptyDict).push (PySem.W.instObj C s.heap.objs.size) } :=
    ⟨V.ref (s.heap.objs.size + 1), _, I2, rfl, h _ _ (I.hok.fresh (Nat.le_succ _)) (I.hok.fresh (Nat.le_refl _)) (Nat.ne_of_lt (Nat.lt_succ_self _))⟩
  have X0 := I.kIn
  have e2 : ((s.heap.push PySem.W.emptyDict).push (PySem.W.instObj C s.heap.objs.size)).get? (s.heap.objs.size + 1) = some (PySem.W.instObj C s.heap.objs.size) := by
    have := Heap.get?_push_size (s.heap.push PySem.W.emptyDict) (o := PySem.W.instObj C s.heap.objs.size) rfl
    rwa [Heap.size_push] at this
  have Y := makes_of (M := model X.prog X.w) X0 M.makes
  have t1 : Looks (model X.prog X.w) ((s.heap.push emptyDict).push (instObj C s.heap.objs.size)) (typeOf (.ref (s.heap.objs.size + 1))) (.ref C) := (Looks.ld e2).andThen .now
  have t2 : Looks (model X.prog X.w) ((s.heap.push emptyDict).push (instObj C s.heap.objs.size)) (isInstance (.ref (s.heap.objs.size + 1)) (.type "object")) true := t1.andThen (Y.top.keeps fun b o e => Heap.get?_push_of_some _ (Heap.get?_push_of_some _ e))
  refine wpAny_call (make_map0 X0 M.makes M.init (fun self => Looks.of_pure (oi_bind self)) ?_)
  refine codeAny_call_builtin oi_plain entry_oi (@check_slot (model X.prog X.w) _ _ _ "object.__init__" "object" "__init__" (.ref (s.heap.objs.size + 1)) [] [] _ oi_kind oi_split t2 (oi_args (.ref (s.heap.objs.size + 1))) ?_)
  rw [oi_run]
  exact wpAny_pure (And.intro rfl z)
end
inductive Kd | let_ | rk | take | put | iff | eith | tryy | throw | wait
deriving DecidableEq
def cOf (d : Ad) : Kd → Addr
  | .let_ => d.cLet | .rk => d.cReckon | .take => d.cTake | .put => d.cPut | .iff => d.cIf | .eith => d.cEither | .tryy => d.cTry | .throw => d.cThrow | .wait => d.cWait
def atK : Kd → List Str
  | .let_ => ["slot", "number"] | .rk => ["word", "slot", "one", "other"] | .take => ["slot", "place"] | .put => ["place", "slot"] | .iff => ["slot", "parts", "others"] | .eith => ["parts", "others"] | .tryy => ["parts", "name", "slot", "others"] | .throw => ["name", "slot"] | .wait => []
structure TParts (d : Ad) : Prop where
  cl : ∀ k, Cls d.K (cOf d k)
  cc : ∀ k, PySem.W.findIn d.K (.ref (cOf d k)) "__class__" = some (some (.builtin "object.__class__"))
  mo : ∀ k, PySem.W.mroIn d.K (cOf d k) (.type "object") = some true
  gs : PySem.W.specialIn d.K (.builtin "object.__class__") "__get__" = some (some (.builtin "getset_descriptor.__get__"))
  tk : PySem.W.takesIn d.K (.builtin "object.__class__") = some true
  kit : ∀ k j, j ≠ .wait → PySem.W.kitOne d.K (.ref (cOf d k)) (.ref (cOf d j)) = some (decide (k = j))
  na : ∀ k n, n ∈ atK k → NoAttr d.K (cOf d k) n
section
variable {d : Ad} {H : Hp} {Q : VK} {a dx : Addr} {fs : List (Str × V)}
theorem ty_part (T : TParts d) {k : Kd} (h : H a = some (.ins (cOf d k) dx fs)) : TyX d.K H (.ref a) (.ref (cOf d k)) := .base (.ins h (T.cl k) (T.cc k) T.gs T.tk (T.mo k))
theorem w_isiO (T : TParts d) {k j : Kd} {b : Bool} (hj : j ≠ .wait) (h : H a = some (.ins (cOf d k) dx fs)) (e : decide (k = j) = b) (q : Q (.bl b) H) : rIsi d.K [.ref a, .ref (cOf d j)] H Q :=
  w_isi (.own _) (ty_part T h) (by rw [T.kit k j hj, e]) q
end
inductive Pt
  | let_ (s : Str) (n : Int) | rk (w s o t : Str) | take (s p : Str) | put (p s : Str) | iff (s : Str) (ps os : List Pt) | eith (ps os : List Pt) | tryy (ps : List Pt) (n s : Str) (os : List Pt) | throw (n s : Str) | wait

abbrev nLet : List Str := ["slot", "number"]
abbrev nReckon : List Str := ["word", "slot", "one", "other"]
abbrev nTake : List Str := ["slot", "place"]
abbrev nPut : List Str := ["place", "slot"]
abbrev nIf : List Str := ["slot", "parts", "others"]
abbrev nEither : List Str := ["parts", "others"]
abbrev nTry : List Str := ["parts", "name", "slot", "others"]
abbrev nThrow : List Str := ["name", "slot"]
abbrev nWait : List Str := []
mutual
def pD (d : Ad) : Pt → D
  | .let_ s n => .obj d.cLet nLet [.str s, .int n]
  | .rk w s o t => .obj d.cReckon nReckon [.str w, .str s, .str o, .str t]
  | .take s p => .obj d.cTake nTake [.str s, .str p]
  | .put p s => .obj d.cPut nPut [.str p, .str s]
  | .iff s ps os => .obj d.cIf nIf [.str s, .lst (psD d ps), .lst (psD d os)]
  | .eith ps os => .obj d.cEither nEither [.lst (psD d ps), .lst (psD d os)]
  | .tryy ps n s os => .obj d.cTry nTry [.lst (psD d ps), .str n, .str s, .lst (psD d os)]
  | .throw n s => .obj d.cThrow nThrow [.str n, .str s]
  | .wait => .obj d.cWait nWait []
def psD (d : Ad) : List Pt → List D
  | [] => []
  | p :: r => pD d p :: psD d r
end
theorem psD_map (d : Ad) : ∀ ps : List Pt, psD d ps = ps.map (pD d)
  | [] => by rw [psD]; rfl
  | p :: r => by rw [psD, psD_map d r]; rfl
section
variable {d : Ad} {e : Env} {W : Wd} {Q : KD} {ns : List Str} {ds : List D}
theorem d_isiO (T : TParts d) {k j : Kd} {b : Bool} (hj : j ≠ .wait) (h : decide (k = j) = b) (q : Q (.raw (.bl b)) W) : RC d.K (rIsi d.K) [.obj (cOf d k) ns ds, .raw (.ref (cOf d j))] W Q := fun B H vs kk s r hk => by
  cases r with
  | cons r1 r2 =>
    cases r2 with
    | cons r2 r3 =>
      cases r2; cases r3
      cases r1 with
      | obj g hl hs => exact w_isiO T hj (s.ex _ _ g) h (hk _ B H _ W (Evl.Ex.refl _) s (.raw _) q)
theorem we_makeO {C : Addr} (q : ∀ x, W x = none → Q (.raw (.ref x)) (wset W x (.ins C []))) : WE d.K (tMakeO C) e W Q := fun B σ H k s r hk => fun x dx hx hdx hne => by
  have hdx2 : (upd H dx (.own x)) x = none := by rw [upd_ne (Ne.symm hne)]; exact hx
  have s2 : Sta d.K B W (upd H dx (.own x)) := s.junk hdx
  exact hk _ B _ _ _ (Evl.Ex.refl _) (s2.new hdx2 (.ins .nil)) (.raw _) (q x (s.nnone hx))
end
def p_Let_init (d : Ad) : PF := fun ds W Q => ∃ (x : Addr) (s : Str) (n : Int), ds = [.ptr x, .str s, .int n] ∧ W x = some (.ins d.cLet []) ∧ Q .non (wset W x (.ins d.cLet [("slot", .str s), ("number", .int n)]))
def p_Reckon_init (d : Ad) : PF := fun ds W Q => ∃ (x : Addr) (w s o t : Str), ds = [.ptr x, .str w, .str s, .str o, .str t] ∧ W x = some (.ins d.cReckon []) ∧ Q .non (wset W x (.ins d.cReckon [("word", .str w), ("slot", .str s), ("one", .str o), ("other", .str t)]))
def p_Take_init (d : Ad) : PF := fun ds W Q => ∃ (x : Addr) (s t : Str), ds = [.ptr x, .str s, .str t] ∧ W x = some (.ins d.cTake []) ∧ Q .non (wset W x (.ins d.cTake [("slot", .str s), ("place", .str t)]))
def p_Put_init (d : Ad) : PF := fun ds W Q => ∃ (x : Addr) (s t : Str), ds = [.ptr x, .str s, .str t] ∧ W x = some (.ins d.cPut []) ∧ Q .non (wset W x (.ins d.cPut [("place", .str s), ("slot", .str t)]))
def p_Throw_init (d : Ad) : PF := fun ds W Q => ∃ (x : Addr) (s t : Str), ds = [.ptr x, .str s, .str t] ∧ W x = some (.ins d.cThrow []) ∧ Q .non (wset W x (.ins d.cThrow [("name", .str s), ("slot", .str t)]))
def p_If_init (d : Ad) : PF := fun ds W Q => ∃ (x : Addr) (s : Str) (l m : D) (ls ms : List D), ds = [.ptr x, .str s, l, m] ∧ W x = some (.ins d.cIf []) ∧ SeqD (wer W x) l ls ∧ SeqD (wer W x) m ms ∧ (Q .non (wset W x (.ins d.cIf [("slot", .str s), ("parts", .lst ls), ("others", .lst ms)])) ∨ ∀ u v, W u = none → W v = none → u ≠ v → Q .non (wset (wset (wset W u (.lst ls)) v (.lst ms)) x (.ins d.cIf [("slot", .str s), ("parts", .ptr u), ("others", .ptr v)])))
def p_Either_init (d : Ad) : PF := fun ds W Q => ∃ (x : Addr) (l m : D) (ls ms : List D), ds = [.ptr x, l, m] ∧ W x = some (.ins d.cEither []) ∧ SeqD (wer W x) l ls ∧ SeqD (wer W x) m ms ∧ (Q .non (wset W x (.ins d.cEither [("parts", .lst ls), ("others", .lst ms)])) ∨ ∀ u v, W u = none → W v = none → u ≠ v → Q .non (wset (wset (wset W u (.lst ls)) v (.lst ms)) x (.ins d.cEither [("parts", .ptr u), ("others", .ptr v)])))
def p_Try_init (d : Ad) : PF := fun ds W Q => ∃ (x : Addr) (n s : Str) (l m : D) (ls ms : List D), ds = [.ptr x, l, .str n, .str s, m] ∧ W x = some (.ins d.cTry []) ∧ SeqD (wer W x) l ls ∧ SeqD (wer W x) m ms ∧ (Q .non (wset W x (.ins d.cTry [("parts", .lst ls), ("name", .str n), ("slot", .str s), ("others", .lst ms)])) ∨ ∀ u v, W u = none → W v = none → u ≠ v → Q .non (wset (wset (wset W u (.lst ls)) v (.lst ms)) x (.ins d.cTry [("parts", .ptr u), ("name", .str n), ("slot", .str s), ("others", .ptr v)])))
abbrev sp_Let_init (d : Ad) : Sp := lift d.K (p_Let_init d)
abbrev sp_Reckon_init (d : Ad) : Sp := lift d.K (p_Reckon_init d)
abbrev sp_Take_init (d : Ad) : Sp := lift d.K (p_Take_init d)
abbrev sp_Put_init (d : Ad) : Sp := lift d.K (p_Put_init d)
abbrev sp_Throw_init (d : Ad) : Sp := lift d.K (p_Throw_init d)
abbrev sp_If_init (d : Ad) : Sp := lift d.K (p_If_init d)
abbrev sp_Either_init (d : Ad) : Sp := lift d.K (p_Either_init d)
abbrev sp_Try_init (d : Ad) : Sp := lift d.K (p_Try_init d)
abbrev N_Let_init : List Str := ["self", "slot", "number"]
def t_Let_init (d : Ad) : TS :=
  (tSeq (sFld d.K (tVar 0) (tVar 1) "slot")
  (sFld d.K (tVar 0) (tVar 2) "number"))
abbrev N_Reckon_init : List Str := ["self", "word", "slot", "one", "other"]
def t_Reckon_init (d : Ad) : TS :=
  (tSeq (sFld d.K (tVar 0) (tVar 1) "word")
  (tSeq (sFld d.K (tVar 0) (tVar 2) "slot")
  (tSeq (sFld d.K (tVar 0) (tVar 3) "one")
  (sFld d.K (tVar 0) (tVar 4) "other"))))
abbrev N_Take_init : List Str := ["self", "slot", "place"]
def t_Take_init (d : Ad) : TS :=
  (tSeq (sFld d.K (tVar 0) (tVar 1) "slot")
  (sFld d.K (tVar 0) (tVar 2) "place"))
abbrev N_Put_init : List Str := ["self", "place", "slot"]
def t_Put_init (d : Ad) : TS :=
  (tSeq (sFld d.K (tVar 0) (tVar 1) "place")
  (sFld d.K (tVar 0) (tVar 2) "slot"))
abbrev N_If_init : List Str := ["self", "slot", "parts", "others"]
def t_If_init (d : Ad) : TS :=
  (tSeq (sFld d.K (tVar 0) (tVar 1) "slot")
  (tSeq (sFld d.K (tVar 0) (tCB (rListOf d.K) (tCons (tVar 2) tNil)) "parts")
  (sFld d.K (tVar 0) (tCB (rListOf d.K) (tCons (tVar 3) tNil)) "others")))
abbrev N_Either_init : List Str := ["self", "parts", "others"]
def t_Either_init (d : Ad) : TS :=
  (tSeq (sFld d.K (tVar 0) (tCB (rListOf d.K) (tCons (tVar 1) tNil)) "parts")
  (sFld d.K (tVar 0) (tCB (rListOf d.K) (tCons (tVar 2) tNil)) "others"))
abbrev N_Try_init : List Str := ["self", "parts", "name", "slot", "others"]
def t_Try_init (d : Ad) : TS :=
  (tSeq (sFld d.K (tVar 0) (tCB (rListOf d.K) (tCons (tVar 1) tNil)) "parts")
  (tSeq (sFld d.K (tVar 0) (tVar 2) "name")
  (tSeq (sFld d.K (tVar 0) (tVar 3) "slot")
  (sFld d.K (tVar 0) (tCB (rListOf d.K) (tCons (tVar 4) tNil)) "others"))))
abbrev N_Throw_init : List Str := ["self", "name", "slot"]
def t_Throw_init (d : Ad) : TS :=
  (tSeq (sFld d.K (tVar 0) (tVar 1) "name")
  (sFld d.K (tVar 0) (tVar 2) "slot"))
local macro_rules | `(tactic| walk_at "callm") => `(tactic| fail)
section
variable {d : Ad} {vs : List V} {H : Hp} {Q : VK} {E : XK} {W : Wd} {x : Addr} {c c' : Cell} {l : D} {ls : List D}
theorem sd_wx (h : SeqD (wer W x) l ls) : SeqD (wset W x c) l ls := h.er fun a u q => by
  by_cases z : a = x
  · subst z; rw [we_same] at q; cases q
  · rw [we_ne z] at q; rw [ws_ne z]; exact q
theorem ws_kept {W : Wd} {x u v : Addr} {c1 c2 cu cv : Cell} {c0 : Cell} (hx : W x = some c0) (hu : wset W x c1 u = none) (hv : wset (wset (wset W x c1) u cu) x c2 v = none) : W u = none ∧ W v = none ∧ u ≠ v ∧ ∀ c, wset (wset (wset (wset (wset W x c1) u cu) x c2) v cv) x c = wset (wset (wset W u cu) v cv) x c := by
  have h1 := ws_non hu
  have h2 := ws_non hv
  have h3 := ws_non h2
  have nux : u ≠ x := fun z => by rw [z, ws_same] at hu; cases hu
  have nvx : v ≠ x := fun z => by rw [z, ws_same] at hv; cases hv
  have nuv : u ≠ v := fun z => by rw [← z, ws_same] at h2; cases h2
  refine ⟨h1, ws_non h3, nuv, fun c => ?_⟩
  funext b
  by_cases zx : b = x
  · rw [zx, ws_same, ws_same]
  · by_cases zv : b = v
    · rw [ws_ne zx, zv, ws_same, ws_ne nvx, ws_same]
    · by_cases zu : b = u
      · rw [ws_ne zx, ws_ne zv, ws_ne zx, zu, ws_same, ws_ne nux, ws_ne nuv, ws_same]
      · rw [ws_ne zx, ws_ne zv, ws_ne zx, ws_ne zu, ws_ne zx, ws_ne zx, ws_ne zv, ws_ne zu]
theorem ws_kept0 {W : Wd} {x u v : Addr} {c2 cu cv : Cell} {c0 : Cell} (hx : W x = some c0) (hu : W u = none) (hv : wset (wset W u cu) x c2 v = none) : W u = none ∧ W v = none ∧ u ≠ v ∧ ∀ c, wset (wset (wset (wset W u cu) x c2) v cv) x c = wset (wset (wset W u cu) v cv) x c := by
  have h2 := ws_non hv
  have h3 := ws_non h2
  have nux : u ≠ x := fun z => by rw [z, hx] at hu; cases hu
  have nvx : v ≠ x := fun z => by rw [z, ws_same] at hv; cases hv
  have nuv : u ≠ v := fun z => by rw [← z, ws_same] at h2; cases h2
  refine ⟨hu, h3, nuv, fun c => ?_⟩
  funext b
  by_cases zx : b = x
  · rw [zx, ws_same, ws_same]
  · by_cases zv : b = v
    · rw [ws_ne zx, zv, ws_same, ws_ne nvx, ws_same]
    · rw [ws_ne zx, ws_ne zv, ws_ne zx, ws_ne zx, ws_ne zv]
theorem sd_wk {x u : Addr} {c cu : Cell} (h : SeqD (wer W x) l ls) (hu : W u = none) : SeqD (wset (wset W u cu) x c) l ls := h.er fun a b q => by
  by_cases z : a = x
  · subst z; rw [we_same] at q; cases q
  · rw [we_ne z] at q; rw [ws_ne z, ws_ne (ne_w q hu)]; exact q
theorem sd_wk1 {x u : Addr} {c c1 cu : Cell} (h : SeqD (wer W x) l ls) (hu : wset W x c1 u = none) : SeqD (wset (wset (wset W x c1) u cu) x c) l ls := h.er fun a b q => by
  by_cases z : a = x
  · subst z; rw [we_same] at q; cases q
  · rw [we_ne z] at q; rw [ws_ne z, ws_ne (ne_w q (ws_non hu)), ws_ne z]; exact q
theorem pure_Let_init (T : TParts d) (h : sp_Let_init d vs H Q E) : t_Let_init d { nx := fun _ H' => Q .non H', rt := Q } (start N_Let_init vs) H := by
  refine lift_pure h fun ds W Q hp => ?_
  obtain ⟨x, s, n, rfl, hx, k⟩ := hp
  have c : Cls d.K d.cLet := T.cl .let_
  have n0 : NoAttr d.K d.cLet "slot" := T.na .let_ _ (by simp [atK])
  have n1 : NoAttr d.K d.cLet "number" := T.na .let_ _ (by simp [atK])
  show WS d.K (t_Let_init d) [some (.raw (.ref x)), some (.raw (.str s)), some (.raw (.int n))] W _
  unfold t_Let_init
  walk_at "mgo"
  exact k
theorem pure_Reckon_init (T : TParts d) (h : sp_Reckon_init d vs H Q E) : t_Reckon_init d { nx := fun _ H' => Q .non H', rt := Q } (start N_Reckon_init vs) H := by
  refine lift_pure h fun ds W Q hp => ?_
  obtain ⟨x, w, s, o, t, rfl, hx, k⟩ := hp
  have c : Cls d.K d.cReckon := T.cl .rk
  have n0 : NoAttr d.K d.cReckon "word" := T.na .rk _ (by simp [atK])
  have n1 : NoAttr d.K d.cReckon "slot" := T.na .rk _ (by simp [atK])
  have n2 : NoAttr d.K d.cReckon "one" := T.na .rk _ (by simp [atK])
  have n3 : NoAttr d.K d.cReckon "other" := T.na .rk _ (by simp [atK])
  show WS d.K (t_Reckon_init d) [some (.raw (.ref x)), some (.raw (.str w)), some (.raw (.str s)), some (.raw (.str o)), some (.raw (.str t))] W _
  unfold t_Reckon_init
  walk_at "mgo"
  exact k
theorem pure_Take_init (T : TParts d) (h : sp_Take_init d vs H Q E) : t_Take_init d { nx := fun _ H' => Q .non H', rt := Q } (start N_Take_init vs) H := by
  refine lift_pure h fun ds W Q hp => ?_
  obtain ⟨x, s, t, rfl, hx, k⟩ := hp
  have c : Cls d.K d.cTake := T.cl .take
  have n0 : NoAttr d.K d.cTake "slot" := T.na .take _ (by simp [atK])
  have n1 : NoAttr d.K d.cTake "place" := T.na .take _ (by simp [atK])
  show WS d.K (t_Take_init d) [some (.raw (.ref x)), some (.raw (.str s)), some (.raw (.str t))] W _
  unfold t_Take_init
  walk_at "mgo"
  exact k
theorem pure_Put_init (T : TParts d) (h : sp_Put_init d vs H Q E) : t_Put_init d { nx := fun _ H' => Q .non H', rt := Q } (start N_Put_init vs) H := by
  refine lift_pure h fun ds W Q hp => ?_
  obtain ⟨x, s, t, rfl, hx, k⟩ := hp
  have c : Cls d.K d.cPut := T.cl .put
  have n0 : NoAttr d.K d.cPut "place" := T.na .put _ (by simp [atK])
  have n1 : NoAttr d.K d.cPut "slot" := T.na .put _ (by simp [atK])
  show WS d.K (t_Put_init d) [some (.raw (.ref x)), some (.raw (.str s)), some (.raw (.str t))] W _
  unfold t_Put_init
  walk_at "mgo"
  exact k
theorem pure_Throw_init (T : TParts d) (h : sp_Throw_init d vs H Q E) : t_Throw_init d { nx := fun _ H' => Q .non H', rt := Q } (start N_Throw_init vs) H := by
  refine lift_pure h fun ds W Q hp => ?_
  obtain ⟨x, s, t, rfl, hx, k⟩ := hp
  have c : Cls d.K d.cThrow := T.cl .throw
  have n0 : NoAttr d.K d.cThrow "name" := T.na .throw _ (by simp [atK])
  have n1 : NoAttr d.K d.cThrow "slot" := T.na .throw _ (by simp [atK])
  show WS d.K (t_Throw_init d) [some (.raw (.ref x)), some (.raw (.str s)), some (.raw (.str t))] W _
  unfold t_Throw_init
  walk_at "mgo"
  exact k
theorem pure_If_init (T : TParts d) (h : sp_If_init d vs H Q E) : t_If_init d { nx := fun _ H' => Q .non H', rt := Q } (start N_If_init vs) H := by
  refine lift_pure h fun ds W Q hp => ?_
  obtain ⟨x, s, l, m, ls, ms, rfl, hx, hl, hm, k⟩ := hp
  have c : Cls d.K d.cIf := T.cl .iff
  have n0 : NoAttr d.K d.cIf "slot" := T.na .iff _ (by simp [atK])
  have n1 : NoAttr d.K d.cIf "parts" := T.na .iff _ (by simp [atK])
  have n2 : NoAttr d.K d.cIf "others" := T.na .iff _ (by simp [atK])
  show WS d.K (t_If_init d) [some (.raw (.ref x)), some (.raw (.str s)), some l, some m] W _
  unfold t_If_init
  walk_at "mgo"
  rcases k with k | k
  · refine d_listF (sd_wx hl) ?_
    walk_at "dat"
    refine d_listF (sd_wx hm) ?_
    walk_at "dat"
    exact k
  · refine d_listF (sd_wx hl) ?_
    intro u hu
    refine fz_id ?_
    walk_at "mgo"
    refine d_listF (sd_wk1 hm hu) ?_
    intro v hv
    refine fz_id ?_
    walk_at "mgo"
    obtain ⟨e1, e2, e3, e4⟩ := ws_kept hx hu hv
    have k := k u v e1 e2 e3
    rw [← e4] at k
    exact k
theorem pure_Either_init (T : TParts d) (h : sp_Either_init d vs H Q E) : t_Either_init d { nx := fun _ H' => Q .non H', rt := Q } (start N_Either_init vs) H := by
  refine lift_pure h fun ds W Q hp => ?_
  obtain ⟨x, l, m, ls, ms, rfl, hx, hl, hm, k⟩ := hp
  have c : Cls d.K d.cEither := T.cl .eith
  have n1 : NoAttr d.K d.cEither "parts" := T.na .eith _ (by simp [atK])
  have n2 : NoAttr d.K d.cEither "others" := T.na .eith _ (by simp [atK])
  show WS d.K (t_Either_init d) [some (.raw (.ref x)), some l, some m] W _
  unfold t_Either_init
  walk_at "mgo"
  rcases k with k | k
  · refine d_listF (hl.er Sub.wer) ?_
    walk_at "dat"
    refine d_listF (sd_wx hm) ?_
    walk_at "dat"
    exact k
  · refine d_listF (hl.er Sub.wer) ?_
    intro u hu
    refine fz_id ?_
    walk_at "mgo"
    try simp only [ws_ws]
    refine d_listF (sd_wk hm hu) ?_
    intro v hv
    refine fz_id ?_
    walk_at "mgo"
    obtain ⟨e1, e2, e3, e4⟩ := ws_kept0 hx hu hv
    have k := k u v e1 e2 e3
    rw [← e4] at k
    exact k
theorem pure_Try_init (T : TParts d) (h : sp_Try_init d vs H Q E) : t_Try_init d { nx := fun _ H' => Q .non H', rt := Q } (start N_Try_init vs) H := by
  refine lift_pure h fun ds W Q hp => ?_
  obtain ⟨x, n, s, l, m, ls, ms, rfl, hx, hl, hm, k⟩ := hp
  have c : Cls d.K d.cTry := T.cl .tryy
  have n0 : NoAttr d.K d.cTry "slot" := T.na .tryy _ (by simp [atK])
  have n1 : NoAttr d.K d.cTry "parts" := T.na .tryy _ (by simp [atK])
  have n2 : NoAttr d.K d.cTry "others" := T.na .tryy _ (by simp [atK])
  have n3 : NoAttr d.K d.cTry "name" := T.na .tryy _ (by simp [atK])
  show WS d.K (t_Try_init d) [some (.raw (.ref x)), some l, some (.raw (.str n)), some (.raw (.str s)), some m] W _
  unfold t_Try_init
  walk_at "mgo"
  rcases k with k | k
  · refine d_listF (hl.er Sub.wer) ?_
    walk_at "dat"
    refine d_listF (sd_wx hm) ?_
    walk_at "dat"
    exact k
  · refine d_listF (hl.er Sub.wer) ?_
    intro u hu
    refine fz_id ?_
    walk_at "mgo"
    try simp only [ws_ws]
    refine d_listF (sd_wk hm hu) ?_
    intro v hv
    refine fz_id ?_
    walk_at "mgo"
    obtain ⟨e1, e2, e3, e4⟩ := ws_kept0 hx hu hv
    have k := k u v e1 e2 e3
    rw [← e4] at k
    exact k
end
section
variable {d : Ad} {e : Env} {W : Wd} {Q : KD} {tl : TA}
theorem mk_end {C : Addr} {fs : List (Str × D)} {x : Addr} (h : W x = none) (q : Q (.obj C (fs.map (·.1)) (fs.map (·.2))) W) {c : Cell} : D.non = D.non ∧ FzQ Q (.raw (.ref x)) (wset (wset W x c) x (.ins C fs)) := ⟨rfl, by rw [ws_ws]; exact fz_obj h q⟩
theorem sd_new {x : Addr} {l : D} {ls : List D} {c : Cell} (h : SeqD W l ls) (hx : W x = none) : SeqD (wer (wset W x c) x) l ls := by rw [we_ws hx]; exact h
theorem mk_Let (q : WA d.K tl e W fun ds W1 => ∃ s n, ds = [D.raw (.str s), D.raw (.int n)] ∧ Q (pD d (.let_ s n)) W1) : WE d.K (tMake d.cLet (sp_Let_init d) [] E0 tl) e W Q := we_fz (we_make fun B σ H k s r hk => q B σ H k s r fun vs B1 H1 ds W1 x1 s1 r1 q1 => hk vs B1 H1 ds W1 x1 s1 r1 (by
  obtain ⟨s, n, rfl, q1⟩ := q1
  exact fun x hx => ⟨x, s, n, rfl, ws_same, mk_end hx (by rw [pD] at q1; exact q1)⟩))
theorem mk_Reckon (q : WA d.K tl e W fun ds W1 => ∃ w s o t, ds = [D.raw (.str w), D.raw (.str s), D.raw (.str o), D.raw (.str t)] ∧ Q (pD d (.rk w s o t)) W1) : WE d.K (tMake d.cReckon (sp_Reckon_init d) [] E0 tl) e W Q := we_fz (we_make fun B σ H k s r hk => q B σ H k s r fun vs B1 H1 ds W1 x1 s1 r1 q1 => hk vs B1 H1 ds W1 x1 s1 r1 (by
  obtain ⟨w, s, o, t, rfl, q1⟩ := q1
  exact fun x hx => ⟨x, w, s, o, t, rfl, ws_same, mk_end hx (by rw [pD] at q1; exact q1)⟩))
theorem mk_Take (q : WA d.K tl e W fun ds W1 => ∃ s t, ds = [D.raw (.str s), D.raw (.str t)] ∧ Q (pD d (.take s t)) W1) : WE d.K (tMake d.cTake (sp_Take_init d) [] E0 tl) e W Q := we_fz (we_make fun B σ H k s r hk => q B σ H k s r fun vs B1 H1 ds W1 x1 s1 r1 q1 => hk vs B1 H1 ds W1 x1 s1 r1 (by
  obtain ⟨s, t, rfl, q1⟩ := q1
  exact fun x hx => ⟨x, s, t, rfl, ws_same, mk_end hx (by rw [pD] at q1; exact q1)⟩))
theorem mk_Put (q : WA d.K tl e W fun ds W1 => ∃ s t, ds = [D.raw (.str s), D.raw (.str t)] ∧ Q (pD d (.put s t)) W1) : WE d.K (tMake d.cPut (sp_Put_init d) [] E0 tl) e W Q := we_fz (we_make fun B σ H k s r hk => q B σ H k s r fun vs B1 H1 ds W1 x1 s1 r1 q1 => hk vs B1 H1 ds W1 x1 s1 r1 (by
  obtain ⟨s, t, rfl, q1⟩ := q1
  exact fun x hx => ⟨x, s, t, rfl, ws_same, mk_end hx (by rw [pD] at q1; exact q1)⟩))
theorem mk_Throw (q : WA d.K tl e W fun ds W1 => ∃ s t, ds = [D.raw (.str s), D.raw (.str t)] ∧ Q (pD d (.throw s t)) W1) : WE d.K (tMake d.cThrow (sp_Throw_init d) [] E0 tl) e W Q := we_fz (we_make fun B σ H k s r hk => q B σ H k s r fun vs B1 H1 ds W1 x1 s1 r1 q1 => hk vs B1 H1 ds W1 x1 s1 r1 (by
  obtain ⟨s, t, rfl, q1⟩ := q1
  exact fun x hx => ⟨x, s, t, rfl, ws_same, mk_end hx (by rw [pD] at q1; exact q1)⟩))
theorem mk_If (q : WA d.K tl e W fun ds W1 => ∃ s l m ps os, ds = [D.raw (.str s), l, m] ∧ SeqD W1 l (psD d ps) ∧ SeqD W1 m (psD d os) ∧ Q (pD d (.iff s ps os)) W1) : WE d.K (tMake d.cIf (sp_If_init d) [] E0 tl) e W Q := we_fz (we_make fun B σ H k s r hk => q B σ H k s r fun vs B1 H1 ds W1 x1 s1 r1 q1 => hk vs B1 H1 ds W1 x1 s1 r1 (by
  obtain ⟨s, l, m, ps, os, rfl, h1, h2, q1⟩ := q1
  exact fun x hx => ⟨x, s, l, m, _, _, rfl, ws_same, sd_new h1 hx, sd_new h2 hx, .inl (mk_end hx (by rw [pD] at q1; exact q1))⟩))
theorem mk_Either (q : WA d.K tl e W fun ds W1 => ∃ l m ps os, ds = [l, m] ∧ SeqD W1 l (psD d ps) ∧ SeqD W1 m (psD d os) ∧ Q (pD d (.eith ps os)) W1) : WE d.K (tMake d.cEither (sp_Either_init d) [] E0 tl) e W Q := we_fz (we_make fun B σ H k s r hk => q B σ H k s r fun vs B1 H1 ds W1 x1 s1 r1 q1 => hk vs B1 H1 ds W1 x1 s1 r1 (by
  obtain ⟨l, m, ps, os, rfl, h1, h2, q1⟩ := q1
  exact fun x hx => ⟨x, l, m, _, _, rfl, ws_same, sd_new h1 hx, sd_new h2 hx, .inl (mk_end hx (by rw [pD] at q1; exact q1))⟩))
theorem mk_Try (q : WA d.K tl e W fun ds W1 => ∃ l n s m ps os, ds = [l, D.raw (.str n), D.raw (.str s), m] ∧ SeqD W1 l (psD d ps) ∧ SeqD W1 m (psD d os) ∧ Q (pD d (.tryy ps n s os)) W1) : WE d.K (tMake d.cTry (sp_Try_init d) [] E0 tl) e W Q := we_fz (we_make fun B σ H k s r hk => q B σ H k s r fun vs B1 H1 ds W1 x1 s1 r1 q1 => hk vs B1 H1 ds W1 x1 s1 r1 (by
  obtain ⟨l, n, s, m, ps, os, rfl, h1, h2, q1⟩ := q1
  exact fun x hx => ⟨x, n, s, l, m, _, _, rfl, ws_same, sd_new h1 hx, sd_new h2 hx, .inl (mk_end hx (by rw [pD] at q1; exact q1))⟩))
theorem mk_Wait (q : Q (pD d .wait) W) : WE d.K (tMakeO d.cWait) e W Q := we_fz (we_makeO fun x hx => fz_obj hx (by rw [pD] at q; exact q))
theorem ex_si {a : Str} {b : Int} {P : Str → Int → Prop} (q : P a b) : ∃ s n, [D.raw (.str a), D.raw (.int b)] = [D.raw (.str s), D.raw (.int n)] ∧ P s n := ⟨a, b, rfl, q⟩
theorem ex_ss {a b : Str} {P : Str → Str → Prop} (q : P a b) : ∃ s n, [D.raw (.str a), D.raw (.str b)] = [D.raw (.str s), D.raw (.str n)] ∧ P s n := ⟨a, b, rfl, q⟩
theorem ex_ssss {a b c e : Str} {P : Str → Str → Str → Str → Prop} (q : P a b c e) : ∃ s n m t, [D.raw (.str a), D.raw (.str b), D.raw (.str c), D.raw (.str e)] = [D.raw (.str s), D.raw (.str n), D.raw (.str m), D.raw (.str t)] ∧ P s n m t := ⟨a, b, c, e, rfl, q⟩
end
end
set_option Elab.async false
set_option linter.all false
set_option maxRecDepth 100000
set_option maxHeartbeats 1000000
set_option autoImplicit false
local macro_rules | `(tactic| walk_at "mkp") => `(tactic| first | with_reducible refine' mk_Let ?_ | with_reducible refine' mk_Reckon ?_ | with_reducible refine' mk_Take ?_ | with_reducible refine' mk_Put ?_ | with_reducible refine' mk_If ?_ | with_reducible refine' mk_Either ?_ | with_reducible refine' mk_Try ?_ | with_reducible refine' mk_Throw ?_ | with_reducible refine' mk_Wait ?_ | with_reducible refine' ex_si ?_ | with_reducible refine' ex_ss ?_ | with_reducible refine' ex_ssss ?_)
section
open PySem L2
local macro_rules | `(tactic| walk_at "ne") => `(tactic| first | assumption | exact Ne.symm (by assumption) | ((refine' ne2 ?h1 ?h2); (case h1 => assumption); (case h2 => walk_at "hk")) | ((refine' ne2s ?h1 ?h2); (case h1 => assumption); (case h2 => walk_at "hk")) | exact ne_head (by assumption) | exact ne_of (by assumption) (by assumption) (by intro z; cases z))
local macro_rules | `(tactic| walk_at "hk") => `(tactic| first | assumption | with_reducible exact upd_same | ((with_reducible refine' up_ne ?h1 ?h2); (case h1 => walk_at "ne"); (case h2 => walk_at "hk")) | ((with_reducible refine' ex_at ?h1 ?h2); (case h1 => assumption); (case h2 => walk_at "hk")))
local macro_rules | `(tactic| walk_at "sq") => `(tactic| first | assumption | ((with_reducible refine' SqL.of ?h); (case h => walk_at "hk")) | ((with_reducible refine' ex_sq ?h1 ?h2); (case h1 => assumption); (case h2 => walk_at "sq")))
local macro_rules | `(tactic| walk_at "st") => `(tactic| first | assumption | ((with_reducible refine' SqT.of ?h); (case h => walk_at "hk")) | ((with_reducible refine' ex_st ?h1 ?h2); (case h1 => assumption); (case h2 => walk_at "st")))
local macro_rules | `(tactic| walk_at "sc") => `(tactic| first | assumption | decide | omega | (unfold CMul; omega) | (unfold CDiv; omega) | (unfold CPow; decide) | (unfold CDiv; decide))
local macro_rules | `(tactic| walk_at "go") => `(tactic| (repeat (first | walk_at "step" | walk_at "callx")))
local macro_rules | `(tactic| walk_at "len") => `(tactic| first
  | (obtain ⟨rfl, _⟩ := h; rfl) | (obtain ⟨_, rfl, _⟩ := h; rfl) | (obtain ⟨_, _, rfl, _⟩ := h; rfl) | (obtain ⟨_, _, _, rfl, _⟩ := h; rfl) | (obtain ⟨_, _, _, _, rfl, _⟩ := h; rfl)
  | (obtain ⟨_, _, _, _, _, rfl, _⟩ := h; rfl) | (obtain ⟨_, _, _, _, _, _, rfl, _⟩ := h; rfl) | (obtain ⟨_, _, _, _, _, _, _, rfl, _⟩ := h; rfl) | (obtain ⟨_, _, _, _, _, _, _, _, rfl, _⟩ := h; rfl)
  | (obtain ⟨_, _, _, _, _, _, _, _, _, rfl, _⟩ := h; rfl) | (obtain ⟨_, _, _, _, _, _, _, _, _, _, rfl, _⟩ := h; rfl))
local macro_rules | `(tactic| walk_at "sd") => `(tactic| first | with_reducible assumption | with_reducible exact SeqD.lst _ | with_reducible exact SeqD.scr _ | ((with_reducible refine' SeqD.own ?h); (case h => walk_at "wk")) | ((with_reducible refine' SeqD.er ?m ?h); (case h => with_reducible assumption); (case m => walk_at "sub")))
local macro_rules | `(tactic| walk_at "cd") => `(tactic| first | with_reducible assumption | with_reducible exact CatD.lst _ | ((with_reducible refine' CatD.own ?h); (case h => walk_at "wk")))
local macro_rules | `(tactic| walk_at "le") => `(tactic| repeat (first | exact EnvLe.nil | exact EnvLe.refl _ | with_reducible refine' EnvLe.cons (.inl rfl) ?_ | with_reducible refine' EnvLe.cons (.inr rfl) ?_))
local macro_rules | `(tactic| walk_at "mat") => `(tactic| first | ((with_reducible refine' MAt.ins ?h ?l); (case h => walk_at "wk"); (case l => rfl)) | ((with_reducible refine' log_mat ?h ?l ?l2); (case h => walk_at "wk"); (case l => decide +kernel); (case l2 => decide +kernel)))
local macro_rules | `(tactic| walk_at "isim") => `(tactic| first | ((with_reducible refine' m_isi_let_ ?t ?k ?h ?e ?_); (case t => assumption); (case e => assumption); (case h => rfl)) | ((with_reducible refine' m_isi_rk ?t ?k ?h ?e ?_); (case t => assumption); (case e => assumption); (case h => rfl)) | ((with_reducible refine' m_isi_take ?t ?k ?h ?e ?_); (case t => assumption); (case e => assumption); (case h => rfl)) | ((with_reducible refine' m_isi_put ?t ?k ?h ?e ?_); (case t => assumption); (case e => assumption); (case h => rfl)) | ((with_reducible refine' m_isi_throw ?t ?k ?h ?e ?_); (case t => assumption); (case e => assumption); (case h => rfl)) | ((with_reducible refine' m_isi_iff ?t ?k ?h ?e ?_); (case t => assumption); (case e => assumption); (case h => rfl)) | ((with_reducible refine' m_isi_eith ?t ?k ?h ?e ?_); (case t => assumption); (case e => assumption); (case h => rfl)) | ((with_reducible refine' m_isi_tryy ?t ?k ?h ?e ?_); (case t => assumption); (case e => assumption); (case h => rfl)))
def plainRow : Pt → List V
  | .let_ s n => [.str "let", .str s, .int n]
  | .rk w s o t => [.str w, .str s, .str o, .str t]
  | .take s p => [.str "take", .str s, .str p]
  | .put p s => [.str "put", .str p, .str s]
  | .throw n s => [.str "throw", .str n, .str s]
  | _ => [.str "wait"]
abbrev Rows := List (List V)
def twoM (hd : List V) (one : Rows) (f : Nat) (other : Nat → Rows) : Rows :=
  [hd ++ [.int ((f + one.length + 2 : Nat) : Int)]] ++ one ++ [[.str "jump", .int ((f + one.length + 2 + (other (f + one.length + 2)).length : Nat) : Int)]] ++ other (f + one.length + 2)
mutual
def partRows : Pt → Nat → Rows
  | .iff s ps os, f => twoM [.str "unless", .str s] (rowsFrom ps (f + 1)) f (rowsFrom os)
  | .eith ps os, f => twoM [.str "either"] (rowsFrom ps (f + 1) ++ [[.str "settle"]]) f (rowsFrom os)
  | .tryy ps n s os, f => twoM [.str "guard", .str n, .str s] (rowsFrom ps (f + 1) ++ [[.str "settle"]]) f (rowsFrom os)
  | .let_ s n, _ => [plainRow (.let_ s n)]
  | .rk w s o t, _ => [plainRow (.rk w s o t)]
  | .take s p, _ => [plainRow (.take s p)]
  | .put p s, _ => [plainRow (.put p s)]
  | .throw n s, _ => [plainRow (.throw n s)]
  | .wait, _ => [plainRow .wait]
def rowsFrom : List Pt → Nat → Rows
  | [], _ => []
  | p :: r, f => partRows p f ++ rowsFrom r (f + (partRows p f).length)
end
mutual
def lenP : Pt → Nat
  | .iff _ ps os => 2 + lenPs ps + lenPs os
  | .eith ps os => 3 + lenPs ps + lenPs os
  | .tryy ps _ _ os => 3 + lenPs ps + lenPs os
  | .let_ .. | .rk .. | .take .. | .put .. | .throw .. | .wait => 1
def lenPs : List Pt → Nat
  | [] => 0
  | p :: r => lenP p + lenPs r
end
mutual
def ndP : Pt → Nat
  | .iff _ ps os => 3 + max (ndPs ps) (ndPs os)
  | .eith ps os => 3 + max (ndPs ps) (ndPs os)
  | .tryy ps _ _ os => 3 + max (ndPs ps) (ndPs os)
  | .let_ .. | .rk .. | .take .. | .put .. | .throw .. | .wait => 1
def ndPs : List Pt → Nat
  | [] => 0
  | p :: r => max (ndP p) (ndPs r)
end
mutual
theorem partRows_len : ∀ (p : Pt) (f : Nat), (partRows p f).length = lenP p
  | .iff s ps os, f => by simp only [partRows, twoM, lenP, List.length_append, List.length_cons, List.length_nil, rowsFrom_len]; omega
  | .eith ps os, f => by simp only [partRows, twoM, lenP, List.length_append, List.length_cons, List.length_nil, rowsFrom_len]; omega
  | .tryy ps n s os, f => by simp only [partRows, twoM, lenP, List.length_append, List.length_cons, List.length_nil, rowsFrom_len]; omega
  | .let_ .., _ | .rk .., _ | .take .., _ | .put .., _ | .throw .., _ | .wait, _ => by simp [partRows, lenP]
theorem rowsFrom_len : ∀ (ps : List Pt) (f : Nat), (rowsFrom ps f).length = lenPs ps
  | [], _ => rfl
  | p :: r, f => by simp only [rowsFrom, lenPs, List.length_append, partRows_len p, rowsFrom_len r]
end
theorem rowsFrom_app : ∀ (ps qs : List Pt) (f : Nat), rowsFrom (ps ++ qs) f = rowsFrom ps f ++ rowsFrom qs (f + lenPs ps)
  | [], qs, f => by simp [rowsFrom, lenPs]
  | p :: r, qs, f => by
    rw [List.cons_append, rowsFrom, rowsFrom, rowsFrom_app r qs, partRows_len, lenPs, List.append_assoc, Nat.add_assoc]
theorem lenPs_app (ps qs : List Pt) : lenPs (ps ++ qs) = lenPs ps + lenPs qs := by
  induction ps with
  | nil => simp [lenPs]
  | cons p r ih => rw [List.cons_append, lenPs, lenPs, ih]; omega
theorem rowsFrom_take {ps : List Pt} {i : Nat} {p : Pt} (h : ps[i]? = some p) (f : Nat) : rowsFrom (ps.take (i + 1)) f = rowsFrom (ps.take i) f ++ partRows p (f + lenPs (ps.take i)) := by
  rw [List.take_succ, h, rowsFrom_app]
  show _ ++ rowsFrom [p] _ = _
  rw [rowsFrom, rowsFrom, List.append_nil]
theorem lenPs_take (ps : List Pt) (i : Nat) : lenPs (ps.take i) ≤ lenPs ps := by
  have h : lenPs (ps.take i ++ ps.drop i) = lenPs (ps.take i) + lenPs (ps.drop i) := lenPs_app _ _
  rw [List.take_append_drop] at h
  omega
theorem lenP_mem {ps : List Pt} {i : Nat} {p : Pt} (h : ps[i]? = some p) : lenPs (ps.take i) + lenP p ≤ lenPs ps := by
  have h1 := lenPs_take ps (i + 1)
  rw [List.take_succ, h, lenPs_app] at h1
  simpa [lenPs] using h1
theorem ndP_mem : ∀ {ps : List Pt} {i : Nat} {p : Pt}, ps[i]? = some p → ndP p ≤ ndPs ps
  | q :: r, 0, p, h => by cases h; rw [ndPs]; exact Nat.le_max_left _ _
  | q :: r, i + 1, p, h => by rw [ndPs]; exact Nat.le_trans (ndP_mem (by simpa using h)) (Nat.le_max_right _ _)
theorem ndP_pos : ∀ p : Pt, 1 ≤ ndP p
  | .iff .. | .eith .. | .tryy .. => by simp only [ndP]; omega
  | .let_ .. | .rk .. | .take .. | .put .. | .throw .. | .wait => by simp [ndP]
abbrev rwD (r : List V) : D := .tup (r.map D.raw)
abbrev rowsL (rs : Rows) : List D := rs.map rwD
structure SidesD (d : Ad) (C : Addr) (ns : List Str) (vs : List D) (ps os : List Pt) : Prop where
  c : Cls d.K C
  n1 : NoAttr d.K C "parts"
  n2 : NoAttr d.K C "others"
  l1 : (ns.zip vs).lookup ("parts" : Str) = some (.lst (psD d ps))
  l2 : (ns.zip vs).lookup ("others" : Str) = some (.lst (psD d os))
def p_plain_row (d : Ad) : PF := fun ds W Q => ∃ (p : Pt), ds = [pD d p] ∧ lenP p = 1 ∧ Q (rwD (plainRow p)) W
def pN_two_sides (n : Nat) (d : Ad) : PF := fun ds W Q => ∃ (hd : List D) (C : Addr) (ns : List Str) (vs : List D) (f : Nat) (c : D), ds = [.tup hd, .obj C ns vs, .int (f : Nat), c] ∧ ∃ (h2 : List V) (cr : Rows) (ps os : List Pt), hd = h2.map D.raw ∧ h2 ≠ [] ∧ h2.length ≤ 10 ∧ SidesD d C ns vs ps os ∧ SeqD W c (rowsL cr) ∧ cr.length ≤ 10 ∧
  lenPs ps + lenPs os ≤ 10000 ∧ 2 + max (ndPs ps) (ndPs os) ≤ n ∧ ∀ q, W q = none → Q (.ptr q) (wset W q (.lst (rowsL (twoM h2 (rowsFrom ps (f + 1) ++ cr) f (rowsFrom os)))))
def pN_part_rows (n : Nat) (d : Ad) : PF := fun ds W Q => ∃ (p : Pt) (f : Nat), ds = [pD d p, .int (f : Nat)] ∧ lenP p ≤ 10000 ∧ ndP p ≤ n ∧ ∀ q, W q = none → Q (.ptr q) (wset W q (.lst (rowsL (partRows p f))))
def pN_rows_from (n : Nat) (d : Ad) : PF := fun ds W Q => ∃ (l : D) (f : Nat), ds = [l, .int (f : Nat)] ∧ ∃ (ps : List Pt), SeqD W l (psD d ps) ∧ lenPs ps ≤ 10000 ∧ 1 + ndPs ps ≤ n ∧ ∀ q, W q = none → Q (.ptr q) (wset W q (.lst (rowsL (rowsFrom ps f))))
def p_rows_of (d : Ad) : PF := fun ds W Q => ∃ (l : D), ds = [l] ∧ ∃ (ps : List Pt), SeqD W l (psD d ps) ∧ lenPs ps ≤ 10000 ∧ 1 + ndPs ps ≤ 40 ∧ ∀ q, W q = none → Q (.ptr q) (wset W q (.lst (rowsL (rowsFrom ps 0 ++ [[.str "lay"]]))))
abbrev sp_plain_row (d : Ad) : Sp := lift d.K (p_plain_row d)
abbrev spN_two_sides (n : Nat) (d : Ad) : Sp := lift d.K (pN_two_sides n d)
abbrev spN_part_rows (n : Nat) (d : Ad) : Sp := lift d.K (pN_part_rows n d)
abbrev spN_rows_from (n : Nat) (d : Ad) : Sp := lift d.K (pN_rows_from n d)
abbrev sp_two_sides (d : Ad) : Sp := spN_two_sides 40 d
abbrev sp_part_rows (d : Ad) : Sp := spN_part_rows 40 d
abbrev sp_rows_from (d : Ad) : Sp := spN_rows_from 40 d
abbrev sp_rows_of (d : Ad) : Sp := lift d.K (p_rows_of d)
section
variable {d : Ad} {vs : List V} {H : Hp} {Q : VK} {E : XK}
theorem no_two_sides (h : spN_two_sides 0 d vs H Q E) : False := by
  obtain ⟨_, _, _, _, _, _, ⟨_, _, _, _, _, _, _, _, _, _, _, _, _, _, _, _, _, _, h, _⟩, _⟩ := h
  omega
theorem no_part_rows (h : spN_part_rows 0 d vs H Q E) : False := by
  obtain ⟨_, _, _, _, _, _, ⟨p, _, _, _, h, _⟩, _⟩ := h
  have := ndP_pos p
  omega
theorem no_rows_from (h : spN_rows_from 0 d vs H Q E) : False := by
  obtain ⟨_, _, _, _, _, _, ⟨_, _, _, _, _, _, h, _⟩, _⟩ := h
  omega
end
abbrev N_plain_row : List Str := ["part"]
def t_plain_row (d : Ad) : TS :=
  (tSeq (tIfS (tB (tCB (rIsi d.K) (tCons (tVar 0) (tCons (tC (.ref d.cLet)) tNil)))) (tRet (tTup (tCons (tC (.str "let")) (tCons (tFld d.K (tVar 0) "slot") (tCons (tFld d.K (tVar 0) "number") tNil))))) tNext)
  (tSeq (tIfS (tB (tCB (rIsi d.K) (tCons (tVar 0) (tCons (tC (.ref d.cReckon)) tNil)))) (tRet (tTup (tCons (tFld d.K (tVar 0) "word") (tCons (tFld d.K (tVar 0) "slot") (tCons (tFld d.K (tVar 0) "one") (tCons (tFld d.K (tVar 0) "other") tNil)))))) tNext)
  (tSeq (tIfS (tB (tCB (rIsi d.K) (tCons (tVar 0) (tCons (tC (.ref d.cTake)) tNil)))) (tRet (tTup (tCons (tC (.str "take")) (tCons (tFld d.K (tVar 0) "slot") (tCons (tFld d.K (tVar 0) "place") tNil))))) tNext)
  (tSeq (tIfS (tB (tCB (rIsi d.K) (tCons (tVar 0) (tCons (tC (.ref d.cPut)) tNil)))) (tRet (tTup (tCons (tC (.str "put")) (tCons (tFld d.K (tVar 0) "place") (tCons (tFld d.K (tVar 0) "slot") tNil))))) tNext)
  (tSeq (tIfS (tB (tCB (rIsi d.K) (tCons (tVar 0) (tCons (tC (.ref d.cThrow)) tNil)))) (tRet (tTup (tCons (tC (.str "throw")) (tCons (tFld d.K (tVar 0) "name") (tCons (tFld d.K (tVar 0) "slot") tNil))))) tNext)
  (tRet (tTup (tCons (tC (.str "wait")) tNil))))))))
abbrev N_two_sides : List Str := ["head", "part", "first", "closing", "one", "target", "other"]
def t_two_sides (n : Nat) (d : Ad) : TS :=
  (tSeq (tAsg (aCatQ d.K (tCall (spN_rows_from n d) [] E0 (tCons (tFld d.K (tVar 1) "parts") (tCons (aAdd (tVar 2) (tC (.int 1))) tNil))) (tVar 3)) (gName 4))
  (tSeq (tAsg (aAdd (aAdd (tVar 2) (tCB (Evl.rLenS d.K) (tCons (tVar 4) tNil))) (tC (.int 2))) (gName 5))
  (tSeq (tAsg (tCall (spN_rows_from n d) [] E0 (tCons (tFld d.K (tVar 1) "others") (tCons (tVar 5) tNil))) (gName 6))
  (tRet (aCatQ d.K (aCatQ d.K (aCatQ d.K (tLst (tCons (aCatT d.K (tVar 0) (tTup (tCons (tVar 5) tNil))) tNil)) (tVar 4)) (tLst (tCons (tTup (tCons (tC (.str "jump")) (tCons (aAdd (tVar 5) (tCB (Evl.rLenS d.K) (tCons (tVar 6) tNil))) tNil))) tNil))) (tVar 6))))))
abbrev N_part_rows : List Str := ["part", "first"]
def t_part_rows (n : Nat) (d : Ad) : TS :=
  (tSeq (tIfS (tB (tCB (rIsi d.K) (tCons (tVar 0) (tCons (tC (.ref d.cIf)) tNil)))) (tRet (tCall (spN_two_sides n d) [] E0 (tCons (tTup (tCons (tC (.str "unless")) (tCons (tFld d.K (tVar 0) "slot") tNil))) (tCons (tVar 0) (tCons (tVar 1) (tCons (tLst tNil) tNil)))))) tNext)
  (tSeq (tIfS (tB (tCB (rIsi d.K) (tCons (tVar 0) (tCons (tC (.ref d.cEither)) tNil)))) (tRet (tCall (spN_two_sides n d) [] E0 (tCons (tTup (tCons (tC (.str "either")) tNil)) (tCons (tVar 0) (tCons (tVar 1) (tCons (tLst (tCons (tTup (tCons (tC (.str "settle")) tNil)) tNil)) tNil)))))) tNext)
  (tSeq (tIfS (tB (tCB (rIsi d.K) (tCons (tVar 0) (tCons (tC (.ref d.cTry)) tNil)))) (tRet (tCall (spN_two_sides n d) [] E0 (tCons (tTup (tCons (tC (.str "guard")) (tCons (tFld d.K (tVar 0) "name") (tCons (tFld d.K (tVar 0) "slot") tNil)))) (tCons (tVar 0) (tCons (tVar 1) (tCons (tLst (tCons (tTup (tCons (tC (.str "settle")) tNil)) tNil)) tNil)))))) tNext)
  (tRet (tLst (tCons (tCall (sp_plain_row d) [] E0 (tCons (tVar 0) tNil)) tNil))))))
abbrev N_rows_from : List Str := ["parts", "first", "rows", "part"]
def t_rows_from (n : Nat) (d : Ad) : TS :=
  (tSeq (tAsg (tLst tNil) (gName 2))
  (tSeq (tFor (iList d.K (tVar 0)) (gName 3) (tDrop (tBM d.K "list" rExtend (tVar 2) (tCons (tCall (spN_part_rows n d) [] E0 (tCons (tVar 3) (tCons (aAdd (tVar 1) (tCB (Evl.rLenS d.K) (tCons (tVar 2) tNil))) tNil))) tNil))))
  (tRet (tVar 2))))
abbrev N_rows_of : List Str := ["deed"]
def t_rows_of (d : Ad) : TS :=
  (tRet (aCatQ d.K (tCall (sp_rows_from d) [] E0 (tCons (tVar 0) (tCons (tC (.int 0)) tNil))) (tLst (tCons (tTup (tCons (tC (.str "lay")) tNil)) tNil))))
section
variable {d : Ad} {W : Wd} {Q : KD} {C : Addr} {k : Kd} {b : Bool} {ns : List Str} {ds : List D}
theorem m_isi_let_ (T : TParts d) (k : Kd) (h : decide (k = .let_) = b) (e : cOf d k = C) (q : Q (.raw (.bl b)) W) : RC d.K (rIsi d.K) [.obj C ns ds, .raw (.ref d.cLet)] W Q := e ▸ d_isiO T (j := .let_) (by intro z; cases z) h q
theorem m_isi_rk (T : TParts d) (k : Kd) (h : decide (k = .rk) = b) (e : cOf d k = C) (q : Q (.raw (.bl b)) W) : RC d.K (rIsi d.K) [.obj C ns ds, .raw (.ref d.cReckon)] W Q := e ▸ d_isiO T (j := .rk) (by intro z; cases z) h q
theorem m_isi_take (T : TParts d) (k : Kd) (h : decide (k = .take) = b) (e : cOf d k = C) (q : Q (.raw (.bl b)) W) : RC d.K (rIsi d.K) [.obj C ns ds, .raw (.ref d.cTake)] W Q := e ▸ d_isiO T (j := .take) (by intro z; cases z) h q
theorem m_isi_put (T : TParts d) (k : Kd) (h : decide (k = .put) = b) (e : cOf d k = C) (q : Q (.raw (.bl b)) W) : RC d.K (rIsi d.K) [.obj C ns ds, .raw (.ref d.cPut)] W Q := e ▸ d_isiO T (j := .put) (by intro z; cases z) h q
theorem m_isi_throw (T : TParts d) (k : Kd) (h : decide (k = .throw) = b) (e : cOf d k = C) (q : Q (.raw (.bl b)) W) : RC d.K (rIsi d.K) [.obj C ns ds, .raw (.ref d.cThrow)] W Q := e ▸ d_isiO T (j := .throw) (by intro z; cases z) h q
theorem m_isi_iff (T : TParts d) (k : Kd) (h : decide (k = .iff) = b) (e : cOf d k = C) (q : Q (.raw (.bl b)) W) : RC d.K (rIsi d.K) [.obj C ns ds, .raw (.ref d.cIf)] W Q := e ▸ d_isiO T (j := .iff) (by intro z; cases z) h q
theorem m_isi_eith (T : TParts d) (k : Kd) (h : decide (k = .eith) = b) (e : cOf d k = C) (q : Q (.raw (.bl b)) W) : RC d.K (rIsi d.K) [.obj C ns ds, .raw (.ref d.cEither)] W Q := e ▸ d_isiO T (j := .eith) (by intro z; cases z) h q
theorem m_isi_tryy (T : TParts d) (k : Kd) (h : decide (k = .tryy) = b) (e : cOf d k = C) (q : Q (.raw (.bl b)) W) : RC d.K (rIsi d.K) [.obj C ns ds, .raw (.ref d.cTry)] W Q := e ▸ d_isiO T (j := .tryy) (by intro z; cases z) h q
end
local macro_rules | `(tactic| walk_at "callm") => `(tactic| first | ((with_reducible refine' m_isi_let_ ?t ?k ?h ?e ?_); (case t => assumption); (case e => assumption); (case h => rfl)) | ((with_reducible refine' m_isi_rk ?t ?k ?h ?e ?_); (case t => assumption); (case e => assumption); (case h => rfl)) | ((with_reducible refine' m_isi_take ?t ?k ?h ?e ?_); (case t => assumption); (case e => assumption); (case h => rfl)) | ((with_reducible refine' m_isi_put ?t ?k ?h ?e ?_); (case t => assumption); (case e => assumption); (case h => rfl)) | ((with_reducible refine' m_isi_throw ?t ?k ?h ?e ?_); (case t => assumption); (case e => assumption); (case h => rfl)) | ((with_reducible refine' m_isi_iff ?t ?k ?h ?e ?_); (case t => assumption); (case e => assumption); (case h => rfl)) | ((with_reducible refine' m_isi_eith ?t ?k ?h ?e ?_); (case t => assumption); (case e => assumption); (case h => rfl)) | ((with_reducible refine' m_isi_tryy ?t ?k ?h ?e ?_); (case t => assumption); (case e => assumption); (case h => rfl)))
section
variable {d : Ad} {vs : List V} {H : Hp} {Q : VK} {E : XK}
theorem pure_plain_row (T : TParts d) (h : sp_plain_row d vs H Q E) : t_plain_row d { nx := fun _ H' => Q .non H', rt := Q } (start N_plain_row vs) H := by
  refine lift_pure h fun ds W Q hp => ?_
  obtain ⟨p, rfl, h1, k⟩ := hp
  show WS d.K (t_plain_row d) [some (pD d p)] W _
  unfold t_plain_row
  cases p with
  | let_ s n =>
    have hk : cOf d .let_ = d.cLet := rfl
    have c : Cls d.K d.cLet := T.cl .let_
    have n0 : NoAttr d.K d.cLet "slot" := T.na .let_ _ (by simp [atK])
    have n1 : NoAttr d.K d.cLet "number" := T.na .let_ _ (by simp [atK])
    rw [pD]
    walk_at "mgo"
    exact ret_dat (Sub.refl _) k
  | rk w s o t =>
    have hk : cOf d .rk = d.cReckon := rfl
    have c : Cls d.K d.cReckon := T.cl .rk
    have n0 : NoAttr d.K d.cReckon "word" := T.na .rk _ (by simp [atK])
    have n1 : NoAttr d.K d.cReckon "slot" := T.na .rk _ (by simp [atK])
    have n2 : NoAttr d.K d.cReckon "one" := T.na .rk _ (by simp [atK])
    have n3 : NoAttr d.K d.cReckon "other" := T.na .rk _ (by simp [atK])
    rw [pD]
    walk_at "mgo"
    exact ret_dat (Sub.refl _) k
  | take s p =>
    have hk : cOf d .take = d.cTake := rfl
    have c : Cls d.K d.cTake := T.cl .take
    have n0 : NoAttr d.K d.cTake "slot" := T.na .take _ (by simp [atK])
    have n1 : NoAttr d.K d.cTake "place" := T.na .take _ (by simp [atK])
    rw [pD]
    walk_at "mgo"
    exact ret_dat (Sub.refl _) k
  | put p s =>
    have hk : cOf d .put = d.cPut := rfl
    have c : Cls d.K d.cPut := T.cl .put
    have n0 : NoAttr d.K d.cPut "place" := T.na .put _ (by simp [atK])
    have n1 : NoAttr d.K d.cPut "slot" := T.na .put _ (by simp [atK])
    rw [pD]
    walk_at "mgo"
    exact ret_dat (Sub.refl _) k
  | throw n s =>
    have hk : cOf d .throw = d.cThrow := rfl
    have c : Cls d.K d.cThrow := T.cl .throw
    have n0 : NoAttr d.K d.cThrow "name" := T.na .throw _ (by simp [atK])
    have n1 : NoAttr d.K d.cThrow "slot" := T.na .throw _ (by simp [atK])
    rw [pD]
    walk_at "mgo"
    exact ret_dat (Sub.refl _) k
  | wait  =>
    have hk : cOf d .wait = d.cWait := rfl
    have c : Cls d.K d.cWait := T.cl .wait
    rw [pD]
    walk_at "mgo"
    exact ret_dat (Sub.refl _) k
  | iff s ps os => simp [lenP] at h1; omega
  | eith ps os => simp [lenP] at h1; omega
  | tryy ps n s os => simp [lenP] at h1; omega
theorem psD_len (ps : List Pt) : (psD d ps).length = ps.length := by rw [psD_map, List.length_map]
theorem psD_get {ps : List Pt} {i : Nat} {x : D} (h : (psD d ps)[i]? = some x) : ∃ p, ps[i]? = some p ∧ x = pD d p := by
  rw [psD_map, List.getElem?_map] at h
  obtain ⟨p, h1, h2⟩ := Option.map_eq_some_iff.mp h
  exact ⟨p, h1, h2.symm⟩
theorem pure_rows_from {n : Nat} (h : spN_rows_from (n + 1) d vs H Q E) : t_rows_from n d { nx := fun _ H' => Q .non H', rt := Q } (start N_rows_from vs) H := by
  refine lift_pure h fun ds W Q hp => ?_
  obtain ⟨l, f, rfl, ps, hl, hlen, hnd, k⟩ := hp
  show WS d.K (t_rows_from n d) [some l, some (.raw (.int f)), none, none] W _
  unfold t_rows_from
  walk_at "mgo"
  intro R hR
  refine fz_id ?_
  walk_at "mgo"
  refine ⟨fun i e W' => e = [some l, some (.raw (.int f)), some (.ptr R), none] ∧ W' = wset W R (.lst (rowsL (rowsFrom (ps.take i) f))), nx_id ⟨rfl, by rw [List.take_zero]; rfl⟩, ?_, ?_, ?_⟩
  · rintro i e' W' hi ⟨rfl, rfl⟩
    exact hl.er (Sub.new (Sub.refl _) hR)
  · rintro i x e' W' hi hx ⟨rfl, rfl⟩
    obtain ⟨p, hp, rfl⟩ := psD_get hx
    have h2 := lenP_mem hp
    have h3 := ndP_mem hp
    walk_at "mgo"
    rw [List.length_map, rowsFrom_len]
    refine ⟨p, f + lenPs (ps.take i), rfl, by omega, by omega, fun q hq => ?_⟩
    walk_at "mgo"
    refine d_ext (by walk_at "wk") (by walk_at "cd") ?_ ?_
    · rw [List.length_map, List.length_map, rowsFrom_len, partRows_len, sizeLine_eq]; omega
    · walk_at "mgo"
      refine nx_of (by walk_at "le") ?m ⟨rfl, rfl⟩
      rw [show rowsL (rowsFrom (ps.take (i + 1)) f) = rowsL (rowsFrom (ps.take i) f) ++ rowsL (partRows p (f + lenPs (ps.take i))) from by rw [rowsFrom_take hp]; exact List.map_append]
      exact Sub.set (Sub.new (Sub.new (Sub.refl _) hR) (ws_non hq))
  · rintro e' W' ⟨rfl, rfl⟩
    walk_at "mgo"
    show FzQ (SubQ Q) (.raw (.ref R)) (wset W R (.lst (rowsL (rowsFrom (ps.take (psD d ps).length) f))))
    rw [psD_len, List.take_length]
    exact ret_own (Sub.refl _) (k R hR)
theorem pure_part_rows (T : TParts d) {n : Nat} (h : spN_part_rows (n + 1) d vs H Q E) : t_part_rows n d { nx := fun _ H' => Q .non H', rt := Q } (start N_part_rows vs) H := by
  refine lift_pure h fun ds W Q hp => ?_
  obtain ⟨p, f, rfl, hlen, hnd, k⟩ := hp
  show WS d.K (t_part_rows n d) [some (pD d p), some (.raw (.int f))] W _
  unfold t_part_rows
  cases p with
  | iff s ps os =>
    have hk : cOf d .iff = d.cIf := rfl
    have c : Cls d.K d.cIf := T.cl .iff
    have n0 : NoAttr d.K d.cIf "slot" := T.na .iff _ (by simp [atK])
    have n1 : NoAttr d.K d.cIf "parts" := T.na .iff _ (by simp [atK])
    have n2 : NoAttr d.K d.cIf "others" := T.na .iff _ (by simp [atK])
    simp only [lenP, ndP] at hlen hnd
    rw [pD]
    walk_at "mgo"
    walk_at "dat"
    refine ⟨_, _, _, _, f, _, rfl, [.str "unless", .str s], [], ps, os, rfl, by simp, by simp, ⟨c, n1, n2, rfl, rfl⟩, SeqD.lst _, by simp, by omega, by omega, fun q hq => ?_⟩
    refine ret_own (Sub.refl _) ?_
    have := k q hq
    rw [partRows] at this
    rw [List.append_nil]
    exact this
  | eith ps os =>
    have hk : cOf d .eith = d.cEither := rfl
    have c : Cls d.K d.cEither := T.cl .eith
    have n1 : NoAttr d.K d.cEither "parts" := T.na .eith _ (by simp [atK])
    have n2 : NoAttr d.K d.cEither "others" := T.na .eith _ (by simp [atK])
    simp only [lenP, ndP] at hlen hnd
    rw [pD]
    walk_at "mgo"
    walk_at "dat"
    refine ⟨_, _, _, _, f, _, rfl, [.str "either"], [[.str "settle"]], ps, os, rfl, by simp, by simp, ⟨c, n1, n2, rfl, rfl⟩, SeqD.lst _, by simp, by omega, by omega, fun q hq => ?_⟩
    refine ret_own (Sub.refl _) ?_
    have := k q hq
    rw [partRows] at this
    exact this
  | tryy ps m s os =>
    have hk : cOf d .tryy = d.cTry := rfl
    have c : Cls d.K d.cTry := T.cl .tryy
    have n0 : NoAttr d.K d.cTry "slot" := T.na .tryy _ (by simp [atK])
    have n1 : NoAttr d.K d.cTry "parts" := T.na .tryy _ (by simp [atK])
    have n2 : NoAttr d.K d.cTry "others" := T.na .tryy _ (by simp [atK])
    have n3 : NoAttr d.K d.cTry "name" := T.na .tryy _ (by simp [atK])
    simp only [lenP, ndP] at hlen hnd
    rw [pD]
    walk_at "mgo"
    walk_at "dat"
    refine ⟨_, _, _, _, f, _, rfl, [.str "guard", .str m, .str s], [[.str "settle"]], ps, os, rfl, by simp, by simp, ⟨c, n1, n2, rfl, rfl⟩, SeqD.lst _, by simp, by omega, by omega, fun q hq => ?_⟩
    refine ret_own (Sub.refl _) ?_
    have := k q hq
    rw [partRows] at this
    exact this
  | let_ s n =>
    have hk : cOf d .let_ = d.cLet := rfl
    rw [pD]
    walk_at "mgo"
    refine ⟨.let_ s n, by rw [pD], by simp [lenP], ?_⟩
    walk_at "mgo"
    intro q hq
    refine fz_id ?_
    have := k q hq
    rw [partRows] at this
    exact ret_own (Sub.refl _) this
  | rk w s o t =>
    have hk : cOf d .rk = d.cReckon := rfl
    rw [pD]
    walk_at "mgo"
    refine ⟨.rk w s o t, by rw [pD], by simp [lenP], ?_⟩
    walk_at "mgo"
    intro q hq
    refine fz_id ?_
    have := k q hq
    rw [partRows] at this
    exact ret_own (Sub.refl _) this
  | take s p =>
    have hk : cOf d .take = d.cTake := rfl
    rw [pD]
    walk_at "mgo"
    refine ⟨.take s p, by rw [pD], by simp [lenP], ?_⟩
    walk_at "mgo"
    intro q hq
    refine fz_id ?_
    have := k q hq
    rw [partRows] at this
    exact ret_own (Sub.refl _) this
  | put p s =>
    have hk : cOf d .put = d.cPut := rfl
    rw [pD]
    walk_at "mgo"
    refine ⟨.put p s, by rw [pD], by simp [lenP], ?_⟩
    walk_at "mgo"
    intro q hq
    refine fz_id ?_
    have := k q hq
    rw [partRows] at this
    exact ret_own (Sub.refl _) this
  | throw n s =>
    have hk : cOf d .throw = d.cThrow := rfl
    rw [pD]
    walk_at "mgo"
    refine ⟨.throw n s, by rw [pD], by simp [lenP], ?_⟩
    walk_at "mgo"
    intro q hq
    refine fz_id ?_
    have := k q hq
    rw [partRows] at this
    exact ret_own (Sub.refl _) this
  | wait  =>
    have hk : cOf d .wait = d.cWait := rfl
    rw [pD]
    walk_at "mgo"
    refine ⟨.wait , by rw [pD], by simp [lenP], ?_⟩
    walk_at "mgo"
    intro q hq
    refine fz_id ?_
    have := k q hq
    rw [partRows] at this
    exact ret_own (Sub.refl _) this
theorem pure_two_sides {n : Nat} (h : spN_two_sides (n + 1) d vs H Q E) : t_two_sides n d { nx := fun _ H' => Q .non H', rt := Q } (start N_two_sides vs) H := by
  refine lift_pure h fun ds W Q hp => ?_
  obtain ⟨_, C, ns, vs, f, cl, rfl, hd, cr, ps, os, rfl, hne, hh, ⟨c, n1, n2, l1, l2⟩, hcl, hcr, hlen, hnd, k⟩ := hp
  show WS d.K (t_two_sides n d) [some (.tup (hd.map D.raw)), some (.obj C ns vs), some (.raw (.int f)), some cl, none, none, none] W _
  unfold t_two_sides
  have b1 : lenPs ps ≤ 10000 := by omega
  have b2 : lenPs os ≤ 10000 := by omega
  have m1 := Nat.le_max_left (ndPs ps) (ndPs os)
  have m2 := Nat.le_max_right (ndPs ps) (ndPs os)
  walk_at "mgo"
  refine d_fldO c n1 l1 ?_
  walk_at "mgo"
  refine ⟨_, f + 1, rfl, ps, SeqD.lst _, b1, by omega, fun q hq => ?_⟩
  walk_at "mgo"
  refine d_catQF (by walk_at "sd") (hcl.er (Sub.new (Sub.refl _) hq)) ?_ ?_
  · rw [List.length_map, List.length_map, rowsFrom_len, sizeLine_eq]; omega
  rw [← List.map_append]
  walk_at "dat"
  rw [List.length_map]
  refine d_fldO c n2 l2 ?_
  walk_at "mgo"
  refine ⟨_, f + (rowsFrom ps (f + 1) ++ cr).length + 2, rfl, os, SeqD.lst _, b2, by omega, fun q2 hq2 => ?_⟩
  have ht : (((f + (rowsFrom ps (f + 1) ++ cr).length : Nat) : Int) + 2) = ((f + (rowsFrom ps (f + 1) ++ cr).length + 2 : Nat) : Int) := rfl
  have l3 : (rowsFrom ps (f + 1) ++ cr).length ≤ 10010 := by rw [List.length_append, rowsFrom_len]; omega
  have l4 : ((rowsFrom ps (f + 1) ++ cr).length : Nat) = (rowsL (rowsFrom ps (f + 1) ++ cr)).length := by rw [List.length_map]
  generalize (rowsFrom ps (f + 1) ++ cr) = one at *
  have l5 : (rowsFrom os (f + one.length + 2)).length ≤ 10000 := by rw [rowsFrom_len]; omega
  walk_at "mgo"
  refine d_catT (by simpa using hne) (by rw [List.length_map, sizeLine_eq]; simp; omega) ?_
  walk_at "mgo"
  walk_at "dat"
  walk_at "dat"
  rw [List.length_map]
  walk_at "mgo"
  walk_at "dat"
  walk_at "dat"
  intro p hp
  refine fz_id (ret_own (Sub.new (Sub.new (Sub.refl _) hq) (ws_non hq2)) ?_)
  have := k p (ws_non (ws_non hp))
  rw [show rowsL (twoM hd one f (rowsFrom os)) = [D.tup (hd.map D.raw ++ [D.raw (V.int ((f : Int) + (one.length : Nat) + 2))])] ++ rowsL one ++ [D.tup [D.raw (V.str "jump"), D.raw (V.int ((f : Int) + (one.length : Nat) + 2 + ((rowsFrom os (f + one.length + 2)).length : Nat)))]] ++ rowsL (rowsFrom os (f + one.length + 2)) from by
    show (twoM hd one f (rowsFrom os)).map rwD = _
    unfold twoM
    simp only [rwD, List.map_append, List.map_cons, List.map_nil]
    rfl] at this
  exact this
theorem pure_rows_of (h : sp_rows_of d vs H Q E) : t_rows_of d { nx := fun _ H' => Q .non H', rt := Q } (start N_rows_of vs) H := by
  refine lift_pure h fun ds W Q hp => ?_
  obtain ⟨l, rfl, ps, hl, hlen, hnd, k⟩ := hp
  show WS d.K (t_rows_of d) [some l] W _
  unfold t_rows_of
  walk_at "mgo"
  refine ⟨l, 0, rfl, ps, hl, hlen, hnd, fun q hq => ?_⟩
  walk_at "mgo"
  walk_at "dat"
  refine d_catQF (by walk_at "sd") (SeqD.lst _) ?_ ?_
  · rw [List.length_map, rowsFrom_len, sizeLine_eq]; simp; omega
  intro p hp
  refine fz_id (ret_own (Sub.new (Sub.refl _) hq) ?_)
  have := k p (ws_non hp)
  rw [show rowsL (rowsFrom ps 0 ++ [[.str "lay"]]) = rowsL (rowsFrom ps 0) ++ [D.tup [D.raw (V.str "lay")]] from List.map_append] at this
  exact this
end
end
set_option Elab.async false
set_option linter.all false
set_option maxRecDepth 100000
set_option maxHeartbeats 1000000
set_option autoImplicit false
local macro_rules | `(tactic| walk_at "isim") => `(tactic| first | ((with_reducible refine' m_isi_let_ ?t ?k ?h ?e ?_); (case t => assumption); (case e => assumption); (case h => rfl)) | ((with_reducible refine' m_isi_rk ?t ?k ?h ?e ?_); (case t => assumption); (case e => assumption); (case h => rfl)) | ((with_reducible refine' m_isi_take ?t ?k ?h ?e ?_); (case t => assumption); (case e => assumption); (case h => rfl)) | ((with_reducible refine' m_isi_put ?t ?k ?h ?e ?_); (case t => assumption); (case e => assumption); (case h => rfl)) | ((with_reducible refine' m_isi_throw ?t ?k ?h ?e ?_); (case t => assumption); (case e => assumption); (case h => rfl)) | ((with_reducible refine' m_isi_iff ?t ?k ?h ?e ?_); (case t => assumption); (case e => assumption); (case h => rfl)) | ((with_reducible refine' m_isi_eith ?t ?k ?h ?e ?_); (case t => assumption); (case e => assumption); (case h => rfl)) | ((with_reducible refine' m_isi_tryy ?t ?k ?h ?e ?_); (case t => assumption); (case e => assumption); (case h => rfl)))
section
open PySem L2
local macro_rules | `(tactic| walk_at "ne") => `(tactic| first | assumption | exact Ne.symm (by assumption) | ((refine' ne2 ?h1 ?h2); (case h1 => assumption); (case h2 => walk_at "hk")) | ((refine' ne2s ?h1 ?h2); (case h1 => assumption); (case h2 => walk_at "hk")) | exact ne_head (by assumption) | exact ne_of (by assumption) (by assumption) (by intro z; cases z))
local macro_rules | `(tactic| walk_at "hk") => `(tactic| first | assumption | with_reducible exact upd_same | ((with_reducible refine' up_ne ?h1 ?h2); (case h1 => walk_at "ne"); (case h2 => walk_at "hk")) | ((with_reducible refine' ex_at ?h1 ?h2); (case h1 => assumption); (case h2 => walk_at "hk")))
local macro_rules | `(tactic| walk_at "sq") => `(tactic| first | assumption | ((with_reducible refine' SqL.of ?h); (case h => walk_at "hk")) | ((with_reducible refine' ex_sq ?h1 ?h2); (case h1 => assumption); (case h2 => walk_at "sq")))
local macro_rules | `(tactic| walk_at "st") => `(tactic| first | assumption | ((with_reducible refine' SqT.of ?h); (case h => walk_at "hk")) | ((with_reducible refine' ex_st ?h1 ?h2); (case h1 => assumption); (case h2 => walk_at "st")))
local macro_rules | `(tactic| walk_at "sc") => `(tactic| first | assumption | decide | omega | (unfold CMul; omega) | (unfold CDiv; omega) | (unfold CPow; decide) | (unfold CDiv; decide))
local macro_rules | `(tactic| walk_at "go") => `(tactic| (repeat (first | walk_at "step" | walk_at "callx")))
local macro_rules | `(tactic| walk_at "len") => `(tactic| first
  | (obtain ⟨rfl, _⟩ := h; rfl) | (obtain ⟨_, rfl, _⟩ := h; rfl) | (obtain ⟨_, _, rfl, _⟩ := h; rfl) | (obtain ⟨_, _, _, rfl, _⟩ := h; rfl) | (obtain ⟨_, _, _, _, rfl, _⟩ := h; rfl)
  | (obtain ⟨_, _, _, _, _, rfl, _⟩ := h; rfl) | (obtain ⟨_, _, _, _, _, _, rfl, _⟩ := h; rfl) | (obtain ⟨_, _, _, _, _, _, _, rfl, _⟩ := h; rfl) | (obtain ⟨_, _, _, _, _, _, _, _, rfl, _⟩ := h; rfl)
  | (obtain ⟨_, _, _, _, _, _, _, _, _, rfl, _⟩ := h; rfl) | (obtain ⟨_, _, _, _, _, _, _, _, _, _, rfl, _⟩ := h; rfl))
local macro_rules | `(tactic| walk_at "sd") => `(tactic| first | with_reducible assumption | with_reducible exact SeqD.lst _ | with_reducible exact SeqD.scr _ | ((with_reducible refine' SeqD.own ?h); (case h => walk_at "wk")) | ((with_reducible refine' SeqD.er ?m ?h); (case h => with_reducible assumption); (case m => walk_at "sub")))
local macro_rules | `(tactic| walk_at "cd") => `(tactic| first | with_reducible assumption | with_reducible exact CatD.lst _ | ((with_reducible refine' CatD.own ?h); (case h => walk_at "wk")))
local macro_rules | `(tactic| walk_at "le") => `(tactic| repeat (first | exact EnvLe.nil | exact EnvLe.refl _ | with_reducible refine' EnvLe.cons (.inl rfl) ?_ | with_reducible refine' EnvLe.cons (.inr rfl) ?_))
local macro_rules | `(tactic| walk_at "mat") => `(tactic| first | ((with_reducible refine' MAt.ins ?h ?l); (case h => walk_at "wk"); (case l => rfl)) | ((with_reducible refine' log_mat ?h ?l ?l2); (case h => walk_at "wk"); (case l => decide +kernel); (case l2 => decide +kernel)))
def niceD : Nat → D → Bool
  | 0, _ => false
  | _ + 1, .raw (.int _) => true
  | _ + 1, .raw (.str _) => true
  | n + 1, .lst ds => decide (ds.length ≤ 100000) && ds.all (niceD n)
  | n + 1, .tup ds => decide (ds.length ≤ 100000) && ds.all (niceD n)
  | _ + 1, _ => false
inductive AtA (W : Wd) : D → D → Prop
  | at' {x z : D} (h : AtD W x z) : AtA W x z
  | tup {xs zs : List D} (l : xs.length = zs.length) (h : ∀ (i : Nat) (x z : D), xs[i]? = some x → zs[i]? = some z → AtD W x z) : AtA W (.tup xs) (.tup zs)
def pN_l_alike (n : Nat) (d : Ad) : PF := fun ds W Q => ∃ (x y : D), ds = [x, y] ∧ ∃ z, AtA W x z ∧ AtA W y z ∧ niceD n z = true ∧ Q (.bl true) W
abbrev spN_l_alike (n : Nat) (d : Ad) : Sp := lift d.K (pN_l_alike n d)
abbrev sp_l_alike (d : Ad) : Sp := spN_l_alike 8 d
theorem no_l_alike {d : Ad} {vs : List V} {H : Hp} {Q : VK} {E : XK} (h : spN_l_alike 0 d vs H Q E) : False := by
  obtain ⟨_, _, _, _, _, _, ⟨x, y, _, z, _, _, h, _⟩, _⟩ := h
  cases h
abbrev N_l_alike : List Str := ["_law_found", "_law_due", "_law_k"]
def t_l_alike (n : Nat) (d : Ad) : TS :=
  (tSeq (tIfS (tB (tCB (rIsi d.K) (tCons (tVar 1) (tCons (tC (.ty "int")) tNil)))) (tRet (tAndV (tCB (rIsi d.K) (tCons (tVar 0) (tCons (tC (.ty "int")) tNil))) (tAndV (tNotV (tCB (rIsi d.K) (tCons (tVar 0) (tCons (tC (.ty "bool")) tNil)))) (tOp rEq (tVar 0) (tVar 1))))) tNext)
  (tSeq (tIfS (tB (tCB (rIsi d.K) (tCons (tVar 1) (tCons (tC (.ty "str")) tNil)))) (tRet (tAndV (tCB (rIsi d.K) (tCons (tVar 0) (tCons (tC (.ty "str")) tNil))) (tOp rEq (tVar 0) (tVar 1)))) tNext)
  (tSeq (tIfS (tB (tCB (rIsi d.K) (tCons (tVar 1) (tCons (tC (.ty "tuple")) tNil)))) (tIfS (tNot (tB (tCB (rIsi d.K) (tCons (tVar 0) (tCons (tC (.ty "tuple")) tNil))))) (tRet (tC (.bl false))) tNext) (tIfS (tNot (tB (tCB (rIsi d.K) (tCons (tVar 0) (tCons (tC (.ty "list")) tNil))))) (tRet (tC (.bl false))) tNext))
  (tSeq (tIfS (tTest (tOp rNe (tCB (Evl.rLenS d.K) (tCons (tVar 0) tNil)) (tCB (Evl.rLenS d.K) (tCons (tVar 1) tNil)))) (tRet (tC (.bl false))) tNext)
  (tSeq (tFor (iRng1 (tCons (tCB (Evl.rLenS d.K) (tCons (tVar 1) tNil)) tNil)) (gName 2) (tIfS (tNot (tB (tCall (spN_l_alike n d) [] E0 (tCons (tOp (rIx d.K) (tVar 0) (tVar 2)) (tCons (tOp (rIx d.K) (tVar 1) (tVar 2)) tNil))))) (tRet (tC (.bl false))) tNext))
  (tRet (tC (.bl true))))))))
local macro_rules | `(tactic| walk_at "callm") => `(tactic| fail)
section
variable {n : Nat} {d : Ad} {vs : List V} {H : Hp} {Q : VK} {E : XK} {W : Wd} {x y : D} {ds : List D}
theorem AtD.seq (h : AtD W x (.lst ds)) : SeqD W x ds := by
  cases h with
  | id => exact .lst _
  | own h => exact .own h
theorem AtD.tup (h : AtD W x (.tup ds)) : x = .tup ds := by cases h; rfl
theorem AtD.raw {v : V} (h : AtD W x (.raw v)) : x = .raw v := by cases h; rfl
theorem AtA.seq (h : AtA W x (.lst ds)) : SeqD W x ds := by cases h with | at' h => exact h.seq
theorem AtA.raw {v : V} (h : AtA W x (.raw v)) : x = .raw v := by cases h with | at' h => exact h.raw
theorem AtA.tupe (h : AtA W x (.tup ds)) : ∃ xs, x = .tup xs ∧ xs.length = ds.length ∧ ∀ (i : Nat) (x z : D), xs[i]? = some x → ds[i]? = some z → AtD W x z := by
  cases h with
  | at' h => exact ⟨ds, h.tup, rfl, fun i x z h1 h2 => by rw [h1] at h2; cases h2; exact .id _⟩
  | tup l h => exact ⟨_, rfl, l, h⟩
theorem m_alikeA {Q : KD} {z : D} (h1 : AtA W x z) (h2 : AtA W y z) (h3 : niceD n z = true) (q : Q (.bl true) W) : pN_l_alike n d [x, y] W Q := ⟨x, y, rfl, z, h1, h2, h3, q⟩
theorem m_alike {Q : KD} {z : D} (h1 : AtD W x z) (h2 : AtD W y z) (h3 : niceD n z = true) (q : Q (.bl true) W) : pN_l_alike n d [x, y] W Q := ⟨x, y, rfl, z, .at' h1, .at' h2, h3, q⟩
theorem pure_l_alike (h : spN_l_alike (n + 1) d vs H Q E) : t_l_alike n d { nx := fun _ H' => Q .non H', rt := Q } (start N_l_alike vs) H := by
  refine lift_pure h fun ds W Q hp => ?_
  obtain ⟨x, y, rfl, z, h1, h2, h3, k⟩ := hp
  show WS d.K (t_l_alike n d) [some x, some y, none] W _
  unfold t_l_alike
  cases z with
  | scr => cases h3
  | obj => cases h3
  | raw v =>
    cases h1.raw; cases h2.raw
    cases v with
    | int i =>
      walk_at "mgo"
      rw [dB_t rfl]
      exact ret_dat (Sub.refl _) k
    | str i =>
      walk_at "mgo"
      rw [dB_t rfl]
      exact ret_dat (Sub.refl _) k
    | _ => cases h3
  | lst ds =>
    obtain ⟨h3, h4⟩ := Bool.and_eq_true_iff.mp h3
    have h3 := of_decide_eq_true h3
    have g1 := h1.seq
    have g2 := h2.seq
    walk_at "mgo"
    refine w_ff (nB_f rfl) ?_
    walk_at "mgo"
    refine ⟨fun i e W' => e = [some x, some y, none] ∧ W' = W, nx_id ⟨rfl, rfl⟩, fun _ _ _ _ _ => trivial, ?_, ?_⟩
    · rintro i u e' W' hi hu ⟨rfl, rfl⟩
      cases hu
      have hi : i < ds.length := by simpa [itR] using hi
      have hx := List.getElem?_eq_getElem hi
      have hx0 : atI ds (0 + (i : Nat) * 1) = some ds[i] := by rw [Int.mul_one, Int.zero_add]; exact atI_nat hx
      walk_at "mgo"
      refine d_ixAL g1 hx0 ?_
      walk_at "mgo"
      refine d_ixAL g2 hx0 ?_
      walk_at "mgo"
      refine m_alike (.id _) (.id _) (List.all_eq_true.mp h4 _ (List.mem_of_getElem? hx)) ?_
      walk_at "mgo"
      exact nx_le (by walk_at "le") ⟨rfl, rfl⟩
    · rintro e' W' ⟨rfl, rfl⟩
      walk_at "mgo"
      exact ret_dat (Sub.refl _) k
  | tup ds =>
    obtain ⟨h3, h4⟩ := Bool.and_eq_true_iff.mp h3
    have h3 := of_decide_eq_true h3
    obtain ⟨xs, rfl, l1, t1⟩ := h1.tupe
    obtain ⟨ys, rfl, l2, t2⟩ := h2.tupe
    walk_at "mgo"
    refine w_ff (nB_f (by rw [l1, l2])) ?_
    walk_at "mgo"
    refine ⟨fun i e W' => e = [some (.tup xs), some (.tup ys), none] ∧ W' = W, nx_id ⟨rfl, rfl⟩, fun _ _ _ _ _ => trivial, ?_, ?_⟩
    · rintro i u e' W' hi hu ⟨rfl, rfl⟩
      cases hu
      have hi : i < ys.length := by simpa [itR] using hi
      have hx := List.getElem?_eq_getElem (l := xs) (i := i) (by omega)
      have hy := List.getElem?_eq_getElem (l := ys) (i := i) (by omega)
      have hz := List.getElem?_eq_getElem (l := ds) (i := i) (by omega)
      rw [show (0 + (i : Nat) * 1 : Int) = (i : Nat) from by rw [Int.mul_one, Int.zero_add]]
      walk_at "mgo"
      refine d_ixAT (atI_nat hx) ?_
      walk_at "mgo"
      refine d_ixAT (atI_nat hy) ?_
      walk_at "mgo"
      refine m_alike (t1 i _ _ hx hz) (t2 i _ _ hy hz) (List.all_eq_true.mp h4 _ (List.mem_of_getElem? hz)) ?_
      walk_at "mgo"
      exact nx_le (by walk_at "le") ⟨rfl, rfl⟩
    · rintro e' W' ⟨rfl, rfl⟩
      walk_at "mgo"
      exact ret_dat (Sub.refl _) k
end
end
set_option Elab.async false
set_option linter.all false
set_option maxRecDepth 100000
set_option maxHeartbeats 1000000
set_option autoImplicit false
section
open PySem L2
def sc1 : V → Bool
  | .str _ => true
  | .int _ => true
  | _ => false
def okR (r : List V) : Prop := r.length ≤ 20 ∧ ∀ v ∈ r, sc1 v = true
theorem okR_plain (p : Pt) : okR (plainRow p) := by
  cases p <;> refine ⟨by simp [plainRow], fun v hv => ?_⟩ <;> simp only [plainRow, List.mem_cons, List.not_mem_nil, or_false] at hv <;> rcases hv with rfl | rfl | rfl | rfl <;> rfl
theorem okR_two {hd : List V} {one : Rows} {f : Nat} {o : Nat → Rows} (h : hd.length ≤ 10 ∧ ∀ v ∈ hd, sc1 v = true) (h1 : ∀ r ∈ one, okR r) (h2 : ∀ t, ∀ r ∈ o t, okR r) : ∀ r ∈ twoM hd one f o, okR r := by
  intro r hr
  unfold twoM at hr
  simp only [List.mem_append, List.mem_singleton] at hr
  rcases hr with ((rfl | hr) | rfl) | hr
  · refine ⟨by rw [List.length_append, List.length_singleton]; omega, fun v hv => ?_⟩
    rcases List.mem_append.mp hv with hv | hv
    · exact h.2 v hv
    · rw [List.mem_singleton.mp hv]; rfl
  · exact h1 r hr
  · refine ⟨by simp, fun v hv => ?_⟩
    simp only [List.mem_cons, List.not_mem_nil, or_false] at hv
    rcases hv with rfl | rfl <;> rfl
  · exact h2 _ r hr
theorem sc_list {l : List V} (h : (l.all sc1) = true) : ∀ v ∈ l, sc1 v = true := List.all_eq_true.mp h
mutual
theorem okR_part : ∀ (p : Pt) (f : Nat), ∀ r ∈ partRows p f, okR r
  | .iff s ps os, f => by
    rw [partRows]
    exact okR_two ⟨by simp, sc_list rfl⟩ (okR_from ps _) (fun t => okR_from os t)
  | .eith ps os, f => by
    rw [partRows]
    refine okR_two ⟨by simp, sc_list rfl⟩ (fun r hr => ?_) (fun t => okR_from os t)
    rcases List.mem_append.mp hr with hr | hr
    · exact okR_from ps _ r hr
    · rw [List.mem_singleton.mp hr]; exact ⟨by simp, sc_list rfl⟩
  | .tryy ps n s os, f => by
    rw [partRows]
    refine okR_two ⟨by simp, sc_list rfl⟩ (fun r hr => ?_) (fun t => okR_from os t)
    rcases List.mem_append.mp hr with hr | hr
    · exact okR_from ps _ r hr
    · rw [List.mem_singleton.mp hr]; exact ⟨by simp, sc_list rfl⟩
  | .let_ s n, _ => fun r hr => by rw [partRows] at hr; rw [List.mem_singleton.mp hr]; exact okR_plain _
  | .rk w s o t, _ => fun r hr => by rw [partRows] at hr; rw [List.mem_singleton.mp hr]; exact okR_plain _
  | .take s p, _ => fun r hr => by rw [partRows] at hr; rw [List.mem_singleton.mp hr]; exact okR_plain _
  | .put p s, _ => fun r hr => by rw [partRows] at hr; rw [List.mem_singleton.mp hr]; exact okR_plain _
  | .throw n s, _ => fun r hr => by rw [partRows] at hr; rw [List.mem_singleton.mp hr]; exact okR_plain _
  | .wait, _ => fun r hr => by rw [partRows] at hr; rw [List.mem_singleton.mp hr]; exact okR_plain _
theorem okR_from : ∀ (ps : List Pt) (f : Nat), ∀ r ∈ rowsFrom ps f, okR r
  | [], _ => fun r hr => by rw [rowsFrom] at hr; cases hr
  | p :: q, f => fun r hr => by
    rw [rowsFrom] at hr
    rcases List.mem_append.mp hr with hr | hr
    · exact okR_part p _ r hr
    · exact okR_from q _ r hr
end
def isPlain : Pt → Bool
  | .iff .. | .eith .. | .tryy .. => false
  | _ => true
theorem plain_nd {p : Pt} (h : isPlain p = true) : ndP p = 1 := by cases p <;> first | rfl | cases h
theorem plain_len {p : Pt} (h : isPlain p = true) : lenP p = 1 := by cases p <;> first | rfl | cases h
theorem plains_nd : ∀ {ps : List Pt} (_ : ∀ p ∈ ps, isPlain p = true), ndPs ps ≤ 1
  | [], _ => by simp [ndPs]
  | p :: r, h => by
    have h2 := plains_nd (fun q hq => h q (List.mem_cons_of_mem p hq))
    rw [ndPs, plain_nd (h p (by simp))]; omega
theorem plains_len : ∀ {ps : List Pt} (_ : ∀ p ∈ ps, isPlain p = true), lenPs ps = ps.length
  | [], _ => rfl
  | p :: r, h => by
    rw [lenPs, plain_len (h p (by simp)), plains_len (fun q hq => h q (List.mem_cons_of_mem _ hq)), List.length_cons]; omega
theorem cutD_map {α β : Type} (f : α → β) (l : List α) (lo hi : Option Int) : cutD (l.map f) lo hi = (cutD l lo hi).map f := by
  unfold cutD
  rw [List.length_map, ← List.map_drop, ← List.map_take]
theorem cutD_len {α : Type} (l : List α) (a b : Nat) : (cutD l (some (a : Int)) (some (b : Int))).length = min b l.length - min a l.length := by
  unfold cutD
  rw [sIx_nat, sIx_nat, List.length_take, List.length_drop]
  omega
theorem ndPs_app (a b : List Pt) : ndPs (a ++ b) = max (ndPs a) (ndPs b) := by
  induction a with
  | nil => simp [ndPs]
  | cons p r ih => rw [List.cons_append, ndPs, ndPs, ih, Nat.max_assoc]
end
set_option Elab.async false
set_option linter.all false
set_option maxRecDepth 100000
set_option maxHeartbeats 1000000
set_option autoImplicit false
section
open PySem L2
local macro_rules | `(tactic| walk_at "ne") => `(tactic| first | assumption | exact Ne.symm (by assumption) | ((refine' ne2 ?h1 ?h2); (case h1 => assumption); (case h2 => walk_at "hk")) | ((refine' ne2s ?h1 ?h2); (case h1 => assumption); (case h2 => walk_at "hk")) | exact ne_head (by assumption) | exact ne_of (by assumption) (by assumption) (by intro z; cases z))
local macro_rules | `(tactic| walk_at "hk") => `(tactic| first | assumption | with_reducible exact upd_same | ((with_reducible refine' up_ne ?h1 ?h2); (case h1 => walk_at "ne"); (case h2 => walk_at "hk")) | ((with_reducible refine' ex_at ?h1 ?h2); (case h1 => assumption); (case h2 => walk_at "hk")))
local macro_rules | `(tactic| walk_at "sq") => `(tactic| first | assumption | ((with_reducible refine' SqL.of ?h); (case h => walk_at "hk")) | ((with_reducible refine' ex_sq ?h1 ?h2); (case h1 => assumption); (case h2 => walk_at "sq")))
local macro_rules | `(tactic| walk_at "st") => `(tactic| first | assumption | ((with_reducible refine' SqT.of ?h); (case h => walk_at "hk")) | ((with_reducible refine' ex_st ?h1 ?h2); (case h1 => assumption); (case h2 => walk_at "st")))
local macro_rules | `(tactic| walk_at "sc") => `(tactic| first | assumption | decide | omega | (unfold CMul; omega) | (unfold CDiv; omega) | (unfold CPow; decide) | (unfold CDiv; decide))
local macro_rules | `(tactic| walk_at "go") => `(tactic| (repeat (first | walk_at "step" | walk_at "callx")))
local macro_rules | `(tactic| walk_at "len") => `(tactic| first
  | (obtain ⟨rfl, _⟩ := h; rfl) | (obtain ⟨_, rfl, _⟩ := h; rfl) | (obtain ⟨_, _, rfl, _⟩ := h; rfl) | (obtain ⟨_, _, _, rfl, _⟩ := h; rfl) | (obtain ⟨_, _, _, _, rfl, _⟩ := h; rfl)
  | (obtain ⟨_, _, _, _, _, rfl, _⟩ := h; rfl) | (obtain ⟨_, _, _, _, _, _, rfl, _⟩ := h; rfl) | (obtain ⟨_, _, _, _, _, _, _, rfl, _⟩ := h; rfl) | (obtain ⟨_, _, _, _, _, _, _, _, rfl, _⟩ := h; rfl)
  | (obtain ⟨_, _, _, _, _, _, _, _, _, rfl, _⟩ := h; rfl) | (obtain ⟨_, _, _, _, _, _, _, _, _, _, rfl, _⟩ := h; rfl))
local macro_rules | `(tactic| walk_at "sd") => `(tactic| first | with_reducible assumption | with_reducible exact SeqD.lst _ | with_reducible exact SeqD.scr _ | ((with_reducible refine' SeqD.own ?h); (case h => walk_at "wk")) | ((with_reducible refine' SeqD.er ?m ?h); (case h => with_reducible assumption); (case m => walk_at "sub")))
local macro_rules | `(tactic| walk_at "cd") => `(tactic| first | with_reducible assumption | with_reducible exact CatD.lst _ | ((with_reducible refine' CatD.own ?h); (case h => walk_at "wk")))
local macro_rules | `(tactic| walk_at "le") => `(tactic| repeat (first | exact EnvLe.nil | exact EnvLe.refl _ | with_reducible refine' EnvLe.cons (.inl rfl) ?_ | with_reducible refine' EnvLe.cons (.inr rfl) ?_))
local macro_rules | `(tactic| walk_at "mat") => `(tactic| first | ((with_reducible refine' MAt.ins ?h ?l); (case h => walk_at "wk"); (case l => rfl)) | ((with_reducible refine' log_mat ?h ?l ?l2); (case h => walk_at "wk"); (case l => decide +kernel); (case l2 => decide +kernel)))
def lt1 (n : Nat) : Str := ⟨#[n]⟩
def az : Str := "abcdefghijklmnopqrstuvwxyz"
def ah : Str := "abcdefgh"
theorem az_codes : az.cps.toList = (List.range 26).map (97 + ·) := by decide +kernel
theorem ah_codes : ah.cps.toList = (List.range 8).map (97 + ·) := by decide +kernel
theorem atI_codes {l : List Nat} {n : Nat} (e : l = (List.range n).map (97 + ·)) {i : Int} (h0 : 0 ≤ i) (h1 : i < n) : atI l i = some (97 + i.toNat) := by
  subst e
  have e2 : ((i.toNat : Nat) : Int) = i := by omega
  rw [← e2]
  refine atI_nat ?_
  rw [List.getElem?_map, List.getElem?_range (by omega), e2]
  rfl
section
variable {K : PySem.W.Frag} {W : Wd} {Q : KD}
theorem d_ixAZ {i : Int} (h0 : 0 ≤ i) (h1 : i < 26) (q : Q (.raw (.str (lt1 (97 + i.toNat)))) W) : RD K rIxS (.raw (.str "abcdefghijklmnopqrstuvwxyz")) (.raw (.int i)) W Q :=
  d_ixS (z := az) (by rw [sizeLine_eq]; decide +kernel) (atI_codes az_codes h0 h1) q
theorem d_ixAH {i : Int} (h0 : 0 ≤ i) (h1 : i < 8) (q : Q (.raw (.str (lt1 (97 + i.toNat)))) W) : RD K rIxS (.raw (.str "abcdefgh")) (.raw (.int i)) W Q :=
  d_ixS (z := ah) (by rw [sizeLine_eq]; decide +kernel) (atI_codes ah_codes h0 h1) q
end
def AZ (s : Str) : Prop := ∀ c ∈ s.cps.toList, 97 ≤ c ∧ c ≤ 122
structure NameOk (s : Str) : Prop where
  az : AZ s
  l1 : 1 ≤ s.length
  l8 : s.length ≤ 8
theorem AZ.nil : AZ ("" : Str) := fun c hc => by
  have e : ("" : Str).cps.toList = [] := by decide +kernel
  rw [e] at hc; cases hc
theorem AZ.app {s t : Str} (a : AZ s) (b : AZ t) : AZ (s ++ t) := fun c hc => by
  have e : (s ++ t).cps.toList = s.cps.toList ++ t.cps.toList := by show (s.cps ++ t.cps).toList = _; simp
  rw [e] at hc
  rcases List.mem_append.mp hc with h | h
  · exact a c h
  · exact b c h
theorem AZ.lt1 {n : Nat} (h : 97 ≤ n ∧ n ≤ 122) : AZ (lt1 n) := fun c hc => by
  have : c = n := by simpa [RT.lt1] using hc
  rw [this]; exact h
theorem lt1_len (n : Nat) : (lt1 n).length = 1 := rfl
theorem app_len (s t : Str) : (s ++ t).length = s.length + t.length := str_len_app s t
def p_l_cell_at (_ : Ad) : PF := fun ds W Q => ∃ (x : D) (ns : List Int) (k : Nat), ds = [x, .int k] ∧ SeqD W x (ns.map D.int) ∧ Q (.int (ns.getD k 0)) W
def p_l_mixed (_ : Ad) : PF := fun ds W Q => ∃ (c : Int), ds = [.int c] ∧ Q (.int (c * 48271 % 999999999989)) W
def p_l_wide (_ : Ad) : PF := fun ds W Q => ∃ (c : Int), ds = [.int c] ∧ Q (.int (c * 982451653 % 2 ^ Int.toNat 64)) W
def p_l_names (_ : Ad) : PF := fun ds W Q => ∃ (c : Int), ds = [.int c] ∧ ∀ q n0 n1 n2, W q = none → NameOk n0 → NameOk n1 → NameOk n2 → Q (.ptr q) (wset W q (.lst [.str n0, .str n1, .str n2]))
abbrev sp_l_cell_at (d : Ad) : Sp := lift d.K (p_l_cell_at d)
abbrev sp_l_mixed (d : Ad) : Sp := lift d.K (p_l_mixed d)
abbrev sp_l_wide (d : Ad) : Sp := lift d.K (p_l_wide d)
abbrev sp_l_names (d : Ad) : Sp := lift d.K (p_l_names d)
abbrev N_l_mixed : List Str := ["_law_cell"]
def t_l_mixed (d : Ad) : TS :=
  (tRet (aMod (aMul (tVar 0) (tC (.int 48271))) (tC (.int 999999999989))))
abbrev N_l_wide : List Str := ["_law_cell"]
def t_l_wide (d : Ad) : TS :=
  (tRet (aMod (aMul (tVar 0) (tC (.int 982451653))) (aPow (tC (.int 2)) (tC (.int 64)))))
abbrev N_l_names : List Str := ["_law_cell", "_law_letters", "_law_mixed_here", "_law_size", "_law_at", "_law_names_here", "_law_turn", "_law_name", "_law_k", "_law_sign"]
def t_l_names (d : Ad) : TS :=
  (tSeq (tAsg (tC (.str "abcdefghijklmnopqrstuvwxyz")) (gName 1))
  (tSeq (tAsg (tCall (sp_l_mixed d) [] E0 (tCons (tVar 0) tNil)) (gName 2))
  (tSeq (tAsg (aAdd (tC (.int 1)) (aMod (tVar 2) (tC (.int 8)))) (gName 3))
  (tSeq (tAsg (aMod (aDiv (tVar 2) (tC (.int 8))) (tVar 3)) (gName 4))
  (tSeq (tAsg (tLst tNil) (gName 5))
  (tSeq (tFor (iRng1 (tCons (tC (.int 3)) tNil)) (gName 6) (tSeq (tAsg (tC (.str "")) (gName 7))
  (tSeq (tFor (iRng1 (tCons (tVar 3) tNil)) (gName 8) (tSeq (tAsg (aAdd (aDiv (aDiv (tVar 2) (tC (.int 64))) (aAdd (aMul (tVar 8) (tVar 8)) (tC (.int 1)))) (tVar 8)) (gName 9))
  (tSeq (tIfS (tTest (tOp rEq (tVar 8) (tVar 4))) (tAsg (aAdd (tVar 9) (tVar 6)) (gName 9)) tNext)
  (tAsg (aAddS (tVar 7) (tOp rIxS (tVar 1) (aMod (tVar 9) (tC (.int 26))))) (gName 7)))))
  (tDrop (tBM d.K "list" rAppend (tVar 5) (tCons (tVar 7) tNil))))))
  (tRet (tVar 5))))))))
abbrev N_l_cell_at : List Str := ["_law_script", "_law_k"]
def t_l_cell_at (d : Ad) : TS :=
  (tSeq (tIfS (tTest (tOp rLt (tVar 1) (tCB (Evl.rLenS d.K) (tCons (tVar 0) tNil)))) (tRet (tOp (rIxL d.K) (tVar 0) (tVar 1))) tNext)
  (tRet (tC (.int 0))))
local macro_rules | `(tactic| walk_at "callm") => `(tactic| fail)
section
variable {d : Ad} {vs : List V} {H : Hp} {Q : VK} {E : XK}
theorem pure_l_mixed (h : sp_l_mixed d vs H Q E) : t_l_mixed d { nx := fun _ H' => Q .non H', rt := Q } (start N_l_mixed vs) H := by
  refine lift_pure h fun ds W Q hp => ?_
  obtain ⟨c, rfl, k⟩ := hp
  show WS d.K (t_l_mixed d) [some (.raw (.int c))] W _
  unfold t_l_mixed
  walk_at "mgo"
  exact ret_dat (Sub.refl _) k
theorem pure_l_wide (h : sp_l_wide d vs H Q E) : t_l_wide d { nx := fun _ H' => Q .non H', rt := Q } (start N_l_wide vs) H := by
  refine lift_pure h fun ds W Q hp => ?_
  obtain ⟨c, rfl, k⟩ := hp
  show WS d.K (t_l_wide d) [some (.raw (.int c))] W _
  unfold t_l_wide
  walk_at "mgo"
  exact ret_dat (Sub.refl _) k
theorem pure_l_names (h : sp_l_names d vs H Q E) : t_l_names d { nx := fun _ H' => Q .non H', rt := Q } (start N_l_names vs) H := by
  refine lift_pure h fun ds W Q hp => ?_
  obtain ⟨c, rfl, k⟩ := hp
  show WS d.K (t_l_names d) [some (.raw (.int c)), none, none, none, none, none, none, none, none, none] W _
  unfold t_l_names
  walk_at "mgo"
  refine ⟨c, rfl, ?_⟩
  generalize c * 48271 % 999999999989 = mx
  walk_at "mgo"
  intro R hR
  refine fz_id ?_
  obtain ⟨sz, hsz, h1, h8⟩ : ∃ sz : Nat, 1 + mx % 8 = (sz : Int) ∧ 1 ≤ sz ∧ sz ≤ 8 := ⟨(1 + mx % 8).toNat, by omega, by omega, by omega⟩
  rw [hsz]
  generalize mx / 8 % (sz : Int) = at'
  walk_at "mgo"
  refine ⟨fun i e W' => e = [some (.raw (.int c)), some (.raw (.str "abcdefghijklmnopqrstuvwxyz")), some (.raw (.int mx)), some (.raw (.int sz)), some (.raw (.int at')), some (.ptr R), none, none, none, none] ∧ ∃ ss : List Str, W' = wset W R (.lst (ss.map D.str)) ∧ ss.length = i ∧ ∀ s ∈ ss, NameOk s, nx_id ⟨rfl, [], rfl, rfl, fun s hs => by simp at hs⟩, fun _ _ _ _ _ => trivial, ?_, ?_⟩
  · rintro i u e' W' hi hu ⟨rfl, ss, rfl, hl, hss⟩
    cases hu
    have hi : i < 3 := hi
    walk_at "mgo"
    refine ⟨fun j e W' => W' = wset W R (.lst (ss.map D.str)) ∧ ∃ s, e = [some (.raw (.int c)), some (.raw (.str "abcdefghijklmnopqrstuvwxyz")), some (.raw (.int mx)), some (.raw (.int sz)), some (.raw (.int at')), some (.ptr R), some (.raw (.int (0 + (i : Nat) * 1))), some (.raw (.str s)), none, none] ∧ AZ s ∧ s.length = j, nx_id ⟨rfl, _, rfl, AZ.nil, rfl⟩, fun _ _ _ _ _ => trivial, ?_, ?_⟩
    · rintro j u e' W' hj hu ⟨rfl, s, rfl, hz, hsl⟩
      cases hu
      have hj : j < sz := by simpa [itR] using hj
      rw [show (0 + (j : Nat) * 1 : Int) = (j : Nat) from by rw [Int.mul_one, Int.zero_add]]
      have hpos : 0 < (j : Int) * (j : Int) + 1 := by
        have := Int.natCast_nonneg (j * j)
        rw [Int.natCast_mul] at this
        omega
      have hcd : CDiv (mx / 64) ((j : Int) * (j : Int) + 1) := by
        have hj8 : j ≤ 8 := by omega
        have h64 : j * j ≤ 8 * 8 := Nat.mul_le_mul hj8 hj8
        have h64 : ((j * j : Nat) : Int) ≤ 64 := by omega
        rw [Int.natCast_mul] at h64
        exact ⟨hpos, by omega⟩
      walk_at "mgo"
      walk_at "dec"
      · walk_at "mgo"
        refine d_ixAZ (by omega) (by omega) ?_
        refine d_addS (by rw [lt1_len, sizeLine_eq]; omega) ?_
        walk_at "mgo"
        exact nx_le (by walk_at "le") ⟨rfl, _, rfl, hz.app (AZ.lt1 (by omega)), by rw [app_len, lt1_len, hsl]⟩
      · walk_at "mgo"
        refine d_ixAZ (by omega) (by omega) ?_
        refine d_addS (by rw [lt1_len, sizeLine_eq]; omega) ?_
        walk_at "mgo"
        exact nx_le (by walk_at "le") ⟨rfl, _, rfl, hz.app (AZ.lt1 (by omega)), by rw [app_len, lt1_len, hsl]⟩
    · rintro e' W' ⟨rfl, s, rfl, hz, hsl⟩
      have hsl : s.length = sz := by simpa [itR] using hsl
      walk_at "mgo"
      refine nx_le (by walk_at "le") ⟨rfl, ss ++ [s], ?_, by rw [List.length_append, hl]; rfl, fun t ht => ?_⟩
      · rw [List.map_append]; rfl
      rcases List.mem_append.mp ht with ht | ht
      · exact hss t ht
      · rw [List.mem_singleton.mp ht]
        exact ⟨hz, by omega, by omega⟩
  · rintro e' W' ⟨rfl, ss, rfl, hl, hss⟩
    walk_at "mgo"
    match ss, hl with
    | [s0, s1, s2], _ => exact ret_own (Sub.refl _) (k R s0 s1 s2 hR (hss _ (by simp)) (hss _ (by simp)) (hss _ (by simp)))
end
end
set_option Elab.async false
set_option linter.all false
set_option maxRecDepth 100000
set_option maxHeartbeats 400000
set_option autoImplicit false
section
open PySem L2
local macro_rules | `(tactic| walk_at "ne") => `(tactic| first | assumption | exact Ne.symm (by assumption) | ((refine' ne2 ?h1 ?h2); (case h1 => assumption); (case h2 => walk_at "hk")) | ((refine' ne2s ?h1 ?h2); (case h1 => assumption); (case h2 => walk_at "hk")) | exact ne_head (by assumption) | exact ne_of (by assumption) (by assumption) (by intro z; cases z))
local macro_rules | `(tactic| walk_at "hk") => `(tactic| first | assumption | with_reducible exact upd_same | ((with_reducible refine' up_ne ?h1 ?h2); (case h1 => walk_at "ne"); (case h2 => walk_at "hk")) | ((with_reducible refine' ex_at ?h1 ?h2); (case h1 => assumption); (case h2 => walk_at "hk")))
local macro_rules | `(tactic| walk_at "sq") => `(tactic| first | assumption | ((with_reducible refine' SqL.of ?h); (case h => walk_at "hk")) | ((with_reducible refine' ex_sq ?h1 ?h2); (case h1 => assumption); (case h2 => walk_at "sq")))
local macro_rules | `(tactic| walk_at "st") => `(tactic| first | assumption | ((with_reducible refine' SqT.of ?h); (case h => walk_at "hk")) | ((with_reducible refine' ex_st ?h1 ?h2); (case h1 => assumption); (case h2 => walk_at "st")))
local macro_rules | `(tactic| walk_at "sc") => `(tactic| first | assumption | decide | omega | (unfold CMul; omega) | (unfold CDiv; omega) | (unfold CPow; decide) | (unfold CDiv; decide))
local macro_rules | `(tactic| walk_at "go") => `(tactic| (repeat (first | walk_at "step" | walk_at "callx")))
local macro_rules | `(tactic| walk_at "len") => `(tactic| first
  | (obtain ⟨rfl, _⟩ := h; rfl) | (obtain ⟨_, rfl, _⟩ := h; rfl) | (obtain ⟨_, _, rfl, _⟩ := h; rfl) | (obtain ⟨_, _, _, rfl, _⟩ := h; rfl) | (obtain ⟨_, _, _, _, rfl, _⟩ := h; rfl)
  | (obtain ⟨_, _, _, _, _, rfl, _⟩ := h; rfl) | (obtain ⟨_, _, _, _, _, _, rfl, _⟩ := h; rfl) | (obtain ⟨_, _, _, _, _, _, _, rfl, _⟩ := h; rfl) | (obtain ⟨_, _, _, _, _, _, _, _, rfl, _⟩ := h; rfl)
  | (obtain ⟨_, _, _, _, _, _, _, _, _, rfl, _⟩ := h; rfl) | (obtain ⟨_, _, _, _, _, _, _, _, _, _, rfl, _⟩ := h; rfl))
local macro_rules | `(tactic| walk_at "sd") => `(tactic| first | with_reducible assumption | with_reducible exact SeqD.lst _ | with_reducible exact SeqD.scr _ | ((with_reducible refine' SeqD.own ?h); (case h => walk_at "wk")) | ((with_reducible refine' SeqD.er ?m ?h); (case h => with_reducible assumption); (case m => walk_at "sub")))
local macro_rules | `(tactic| walk_at "cd") => `(tactic| first | with_reducible assumption | with_reducible exact CatD.lst _ | ((with_reducible refine' CatD.own ?h); (case h => walk_at "wk")))
local macro_rules | `(tactic| walk_at "le") => `(tactic| repeat (first | exact EnvLe.nil | exact EnvLe.refl _ | with_reducible refine' EnvLe.cons (.inl rfl) ?_ | with_reducible refine' EnvLe.cons (.inr rfl) ?_))
local macro_rules | `(tactic| walk_at "mat") => `(tactic| first | ((with_reducible refine' MAt.ins ?h ?l); (case h => walk_at "wk"); (case l => rfl)) | ((with_reducible refine' log_mat ?h ?l ?l2); (case h => walk_at "wk"); (case l => decide +kernel); (case l2 => decide +kernel)))
def five : List Str := ["plus", "minus", "times", "less", "same"]
def Sl (s : Str) : Prop := ∃ k : Nat, k < 8 ∧ s = lt1 (97 + k)
mutual
def okP : Pt → Prop
  | .let_ s n => Sl s ∧ 0 ≤ n ∧ n < 18446744073709551616
  | .rk w s o t => w ∈ five ∧ Sl s ∧ Sl o ∧ Sl t
  | .take s p => Sl s ∧ Sl p
  | .put p s => Sl p ∧ Sl s
  | .iff s ps os => Sl s ∧ okPs ps ∧ okPs os
  | .eith ps os => okPs ps ∧ okPs os
  | .tryy ps n s os => okPs ps ∧ NameOk n ∧ Sl s ∧ okPs os
  | .throw n s => NameOk n ∧ Sl s
  | .wait => True
def okPs : List Pt → Prop
  | [] => True
  | p :: r => okP p ∧ okPs r
end
theorem okPs_iff : ∀ {ps : List Pt}, okPs ps ↔ ∀ p ∈ ps, okP p
  | [] => by simp [okPs]
  | p :: r => by rw [okPs, okPs_iff (ps := r)]; simp
theorem okPs_app {ps qs : List Pt} (h : okPs ps) (k : okPs qs) : okPs (ps ++ qs) := okPs_iff.mpr fun p hp => by
  rcases List.mem_append.mp hp with hp | hp
  · exact okPs_iff.mp h p hp
  · exact okPs_iff.mp k p hp
theorem okPs_one {p : Pt} (h : okP p) : okPs [p] := by simp only [okPs]; exact ⟨h, trivial⟩
mutual
def trD : Pt → D
  | .let_ s n => .tup [.str "let", .str s, .int n]
  | .rk w s o t => .tup [.str "reckon", .str w, .str s, .str o, .str t]
  | .take s p => .tup [.str "take", .str s, .str p]
  | .put p s => .tup [.str "put", .str p, .str s]
  | .iff s ps os => .tup [.str "if", .str s, .lst (trsD ps), .lst (trsD os)]
  | .eith ps os => .tup [.str "either", .lst (trsD ps), .lst (trsD os)]
  | .tryy ps n s os => .tup [.str "try", .lst (trsD ps), .str n, .str s, .lst (trsD os)]
  | .throw n s => .tup [.str "throw", .str n, .str s]
  | .wait => .tup [.str "wait"]
def trsD : List Pt → List D
  | [] => []
  | p :: r => trD p :: trsD r
end
theorem trsD_map : ∀ ps : List Pt, trsD ps = ps.map trD
  | [] => by rw [trsD]; rfl
  | p :: r => by rw [trsD, trsD_map r]; rfl
theorem trsD_app (ps qs : List Pt) : trsD (ps ++ qs) = trsD ps ++ trsD qs := by rw [trsD_map, trsD_map, trsD_map, List.map_append]
theorem trsD_len (ps : List Pt) : (trsD ps).length = ps.length := by rw [trsD_map, List.length_map]
theorem trsD_get {ps : List Pt} {i : Nat} {x : D} (h : (trsD ps)[i]? = some x) : ∃ p, ps[i]? = some p ∧ x = trD p := by
  rw [trsD_map, List.getElem?_map] at h
  obtain ⟨p, h1, h2⟩ := Option.map_eq_some_iff.mp h
  exact ⟨p, h1, h2.symm⟩
theorem len_lenP : ∀ ps : List Pt, ps.length ≤ lenPs ps
  | [] => by simp [lenPs]
  | p :: r => by
    rw [lenPs, List.length_cons]
    have := len_lenP r
    have : 1 ≤ lenP p := by cases p <;> simp [lenP] <;> omega
    omega
theorem menuD {α : Type} {P : α → Prop} {l : List α} (f : α → D) {i : Int} (h0 : 0 ≤ i) (h1 : i < l.length) (h : ∀ a ∈ l, P a) : ∃ a, atI (l.map f) i = some (f a) ∧ P a := by
  obtain ⟨k, rfl⟩ : ∃ k : Nat, i = k := ⟨i.toNat, by omega⟩
  have hk : k < l.length := by omega
  refine ⟨l[k], atI_nat ?_, h _ (List.getElem_mem hk)⟩
  rw [List.getElem?_map, List.getElem?_eq_getElem hk]; rfl
structure Names (l : List Str) : Prop where
  len : l.length = 3
  ok : ∀ s ∈ l, NameOk s
def Letters (z : Str) (k : Nat) : Prop := z.length = k ∧ z.cps.toList = (List.range k).map (97 + ·)
theorem d_ixLet {K : PySem.W.Frag} {W : Wd} {Q : KD} {z : Str} {k : Nat} (h : Letters z k) (hk : k ≤ 8) {i : Int} (h0 : 0 ≤ i) (h1 : i < k) (q : ∀ s, Sl s → Q (.raw (.str s)) W) : RD K rIxS (.raw (.str z)) (.raw (.int i)) W Q :=
  d_ixS (by rw [h.1, sizeLine_eq]; omega) (atI_codes h.2 h0 h1) (q _ ⟨i.toNat, by omega, rfl⟩)
theorem abc_letters : Letters ("abc" : Str) 3 := ⟨by decide +kernel, by decide +kernel⟩
theorem ab_cut {m : Int} : ∃ (z : Str) (k : Nat), atI [D.int 2, D.int 3, D.int 8] (m % 3) = some (D.int (k : Nat)) ∧ cutS ("abcdefgh" : Str) none (some (k : Int)) = z ∧ Letters z k ∧ 2 ≤ k ∧ k ≤ 8 := by
  obtain h | h | h : m % 3 = 0 ∨ m % 3 = 1 ∨ m % 3 = 2 := by omega
  · rw [h]; exact ⟨"ab", 2, rfl, by decide +kernel, ⟨by decide +kernel, by decide +kernel⟩, by decide, by decide⟩
  · rw [h]; exact ⟨"abc", 3, rfl, by decide +kernel, ⟨by decide +kernel, by decide +kernel⟩, by decide, by decide⟩
  · rw [h]; exact ⟨"abcdefgh", 8, rfl, by decide +kernel, ⟨by decide +kernel, by decide +kernel⟩, by decide, by decide⟩
def isP4 : Pt → Bool
  | .let_ .. | .rk .. | .take .. | .put .. => true
  | _ => false
theorem p4_plain {p : Pt} (h : isP4 p = true) : isPlain p = true := by cases p <;> first | rfl | cases h
def p_l_plain (_ : Ad) : PF := fun ds W Q => ∃ (m c : Int), ds = [.int m, .int c] ∧ ∀ ps : List Pt, okPs ps → ps.length ≤ 4 → (∀ p ∈ ps, isP4 p = true) → Q (.lst (trsD ps)) W
def p_l_sided (_ : Ad) : PF := fun ds W Q => ∃ (m : Int) (z : D) (ps os : List Pt), ds = [.int m, .lst (trsD ps), .lst (trsD os), z] ∧ ∃ (nm : List Str), SeqD W z (nm.map D.str) ∧ Names nm ∧ okPs ps ∧ okPs os ∧ lenPs ps ≤ 1000 ∧ lenPs os ≤ 1000 ∧
  ∀ p : Pt, okP p → lenP p ≤ 6 + lenPs ps + lenPs os → ndP p ≤ 3 + max 4 (max (ndPs ps) (ndPs os)) → Q (trD p) W
def pN_l_tree (n : Nat) (_ : Ad) : PF := fun ds W Q => ∃ (x : D) (k : Nat) (z : D), ds = [x, .int (k : Nat), z] ∧ ∃ (ns : List Int) (nm : List Str), SeqD W x (ns.map D.int) ∧ ns.length ≤ 63 ∧ SeqD W z (nm.map D.str) ∧ Names nm ∧ k + 1 ≤ n ∧
  ∀ ps : List Pt, okPs ps → lenPs ps ≤ 6 * ns.length → ndPs ps ≤ 4 + 3 * k → Q (.lst (trsD ps)) W
def pN_l_made (n : Nat) (d : Ad) : PF := fun ds W Q => ∃ (x : D), ds = [x] ∧ ∃ (ps : List Pt), SeqD W x (trsD ps) ∧ ps.length ≤ 1000 ∧ lenPs ps ≤ 1000 ∧ ndPs ps < n ∧ Q (.lst (psD d ps)) W
abbrev sp_l_plain (d : Ad) : Sp := lift d.K (p_l_plain d)
abbrev sp_l_sided (d : Ad) : Sp := lift d.K (p_l_sided d)
abbrev spN_l_tree (n : Nat) (d : Ad) : Sp := lift d.K (pN_l_tree n d)
abbrev spN_l_made (n : Nat) (d : Ad) : Sp := lift d.K (pN_l_made n d)
abbrev sp_l_tree (d : Ad) : Sp := spN_l_tree 5 d
abbrev sp_l_made (d : Ad) : Sp := spN_l_made 20 d
theorem no_l_tree {d : Ad} {vs : List V} {H : Hp} {Q : VK} {E : XK} (h : spN_l_tree 0 d vs H Q E) : False := by
  obtain ⟨_, _, _, _, _, _, ⟨_, _, _, _, _, _, _, _, _, _, h, _⟩, _⟩ := h
  omega
theorem no_l_made {d : Ad} {vs : List V} {H : Hp} {Q : VK} {E : XK} (h : spN_l_made 0 d vs H Q E) : False := by
  obtain ⟨_, _, _, _, _, _, ⟨_, _, _, _, _, _, h, _⟩, _⟩ := h
  omega
abbrev N_l_plain : List Str := ["_law_mixed_here", "_law_cell", "_law_letters", "_law_many", "_law_rest", "_law_one", "_law_other", "_law_third", "_law_way", "_law_word", "_law_tree_here"]
def t_l_plain (d : Ad) : TS :=
  (tSeq (tAsg (tSl rSlS (tC (.str "abcdefgh")) tNoPart (tPart (tOp (rIxL d.K) (tLst (tCons (tC (.int 2)) (tCons (tC (.int 3)) (tCons (tC (.int 8)) tNil)))) (aMod (tVar 0) (tC (.int 3)))))) (gName 2))
  (tSeq (tAsg (tCB rLenStr (tCons (tVar 2) tNil)) (gName 3))
  (tSeq (tAsg (aDiv (tVar 0) (tC (.int 33))) (gName 4))
  (tSeq (tAsg (tOp rIxS (tVar 2) (aMod (tVar 4) (tVar 3))) (gName 5))
  (tSeq (tAsg (tOp rIxS (tVar 2) (aMod (aDiv (tVar 4) (tVar 3)) (tVar 3))) (gName 6))
  (tSeq (tAsg (tOp rIxS (tVar 2) (aMod (aDiv (aDiv (tVar 4) (tVar 3)) (tVar 3)) (tVar 3))) (gName 7))
  (tSeq (tAsg (aMod (aDiv (tVar 0) (tC (.int 3))) (tC (.int 11))) (gName 8))
  (tSeq (tIfS (tTest (tOp rEq (tVar 8) (tC (.int 0)))) (tRet (tLst (tCons (tTup (tCons (tC (.str "let")) (tCons (tVar 5) (tCons (tCall (sp_l_wide d) [] E0 (tCons (tVar 1) tNil)) tNil)))) tNil))) tNext)
  (tSeq (tIfS (tTest (tOp rLt (tVar 8) (tC (.int 3)))) (tRet (tLst (tCons (tTup (tCons (tC (.str "let")) (tCons (tVar 5) (tCons (aMod (aDiv (tVar 4) (tC (.int 1000))) (tC (.int 4))) tNil)))) tNil))) tNext)
  (tSeq (tIfS (tTest (tOp rLt (tVar 8) (tC (.int 5)))) (tSeq (tAsg (tOp (rIxL d.K) (tLst (tCons (tC (.str "plus")) (tCons (tC (.str "minus")) (tCons (tC (.str "times")) (tCons (tC (.str "less")) (tCons (tC (.str "same")) tNil)))))) (aMod (aDiv (tVar 4) (tC (.int 1000))) (tC (.int 5)))) (gName 9))
  (tRet (tLst (tCons (tTup (tCons (tC (.str "reckon")) (tCons (tVar 9) (tCons (tVar 5) (tCons (tVar 6) (tCons (tVar 7) tNil)))))) tNil)))) tNext)
  (tSeq (tIfS (tTest (tOp rLt (tVar 8) (tC (.int 7)))) (tRet (tLst (tCons (tTup (tCons (tC (.str "take")) (tCons (tVar 5) (tCons (tVar 6) tNil)))) tNil))) tNext)
  (tSeq (tIfS (tTest (tOp rLt (tVar 8) (tC (.int 9)))) (tRet (tLst (tCons (tTup (tCons (tC (.str "put")) (tCons (tVar 5) (tCons (tVar 6) tNil)))) tNil))) tNext)
  (tSeq (tAsg (tOp (rIxL d.K) (tLst (tCons (tC (.str "plus")) (tCons (tC (.str "minus")) (tCons (tC (.str "times")) tNil)))) (aMod (aDiv (tVar 4) (tC (.int 1000))) (tC (.int 3)))) (gName 9))
  (tSeq (tAsg (tLst (tCons (tTup (tCons (tC (.str "let")) (tCons (tVar 5) (tCons (aMod (aDiv (tVar 4) (tC (.int 3000))) (tC (.int 3))) tNil)))) (tCons (tTup (tCons (tC (.str "take")) (tCons (tVar 6) (tCons (tVar 5) tNil)))) tNil))) (gName 10))
  (tRet (aCatQ d.K (tVar 10) (tLst (tCons (tTup (tCons (tC (.str "reckon")) (tCons (tVar 9) (tCons (tVar 6) (tCons (tVar 6) (tCons (tVar 7) tNil)))))) (tCons (tTup (tCons (tC (.str "put")) (tCons (tVar 5) (tCons (tVar 6) tNil)))) tNil)))))))))))))))))))
abbrev N_l_sided : List Str := ["_law_mixed_here", "_law_one", "_law_other", "_law_names_here", "_law_letters", "_law_slot", "_law_way", "_law_stop"]
def t_l_sided_8 (d : Ad) : TS :=
  (tSeq (tIfS (tTest (tOp rEq (tVar 6) (tC (.int 1)))) (tRet (tTup (tCons (tC (.str "either")) (tCons (tVar 1) (tCons (tVar 2) tNil))))) tNext)
  (tRet (tTup (tCons (tC (.str "try")) (tCons (tVar 1) (tCons (tOp (rIxL d.K) (tVar 3) (aMod (aDiv (tVar 0) (tC (.int 81))) (tC (.int 3)))) (tCons (tOp rIxS (tVar 4) (aMod (aDiv (tVar 0) (tC (.int 243))) (tC (.int 3)))) (tCons (tVar 2) tNil))))))))
def t_l_sided_6 (d : Ad) : TS :=
  (tSeq (tIfS (tTest (tOp rEq (aMod (aDiv (tVar 0) (tC (.int 3))) (tC (.int 3))) (tC (.int 1)))) (tAsg (aCatQ d.K (tVar 1) (tLst (tCons (tVar 7) tNil))) (gName 1)) tNext)
  (tSeq (tIfS (tTest (tOp rEq (aMod (aDiv (tVar 0) (tC (.int 3))) (tC (.int 3))) (tC (.int 2)))) (tAsg (aCatQ d.K (tVar 1) (tLst (tCons (tTup (tCons (tC (.str "if")) (tCons (tVar 5) (tCons (tLst (tCons (tVar 7) tNil)) (tCons (tLst tNil) tNil))))) tNil))) (gName 1)) tNext)
  (t_l_sided_8 d)))
def t_l_sided (d : Ad) : TS :=
  (tSeq (tAsg (tC (.str "abc")) (gName 4))
  (tSeq (tAsg (tOp rIxS (tVar 4) (aMod (aDiv (tVar 0) (tC (.int 9))) (tC (.int 3)))) (gName 5))
  (tSeq (tAsg (aMod (tVar 0) (tC (.int 3))) (gName 6))
  (tSeq (tIfS (tTest (tOp rEq (tVar 6) (tC (.int 0)))) (tRet (tTup (tCons (tC (.str "if")) (tCons (tVar 5) (tCons (tVar 1) (tCons (tVar 2) tNil)))))) tNext)
  (tSeq (tAsg (tTup (tCons (tC (.str "wait")) tNil)) (gName 7))
  (tSeq (tIfS (tTest (tOp rEq (tVar 6) (tC (.int 2)))) (tAsg (tTup (tCons (tC (.str "throw")) (tCons (tOp (rIxL d.K) (tVar 3) (aMod (aDiv (tVar 0) (tC (.int 27))) (tC (.int 3)))) (tCons (tVar 5) tNil)))) (gName 7)) tNext)
  (t_l_sided_6 d)))))))
abbrev N_l_tree : List Str := ["_law_cells", "_law_depth", "_law_names_here", "_law_tree_here", "_law_at", "_law_cell", "_law_mixed_here", "_law_stops", "_law_many", "_law_more", "_law_one", "_law_other"]
def t_l_tree (n : Nat) (d : Ad) : TS :=
  (tSeq (tAsg (tLst tNil) (gName 3))
  (tSeq (tAsg (tC (.int 0)) (gName 4))
  (tSeq (tWhile (tTest (tOp rLt (tVar 4) (tCB (Evl.rLenS d.K) (tCons (tVar 0) tNil)))) (tSeq (tAsg (tOp (rIxL d.K) (tVar 0) (tVar 4)) (gName 5))
  (tSeq (tAsg (tCall (sp_l_mixed d) [] E0 (tCons (tVar 5) tNil)) (gName 6))
  (tSeq (tAsg (aAdd (tVar 4) (tC (.int 1))) (gName 4))
  (tIfS (tOr (tTest (tOp rEq (tVar 1) (tC (.int 0)))) (tTest (tOp rLt (aMod (tVar 6) (tC (.int 11))) (tC (.int 6))))) (tAsg (aCatQ d.K (tVar 3) (tCall (sp_l_plain d) [] E0 (tCons (aDiv (tVar 6) (tC (.int 11))) (tCons (tVar 5) tNil)))) (gName 3)) (tIfS (tTest (tOp rEq (aMod (tVar 6) (tC (.int 11))) (tC (.int 6)))) (tSeq (tAsg (tLst (tCons (tTup (tCons (tC (.str "wait")) tNil)) (tCons (tTup (tCons (tC (.str "throw")) (tCons (tOp (rIxL d.K) (tVar 2) (aMod (aDiv (tVar 6) (tC (.int 33))) (tC (.int 3)))) (tCons (tOp rIxS (tC (.str "abc")) (aMod (aDiv (tVar 6) (tC (.int 99))) (tC (.int 3)))) tNil)))) tNil))) (gName 7))
  (tDrop (tBM d.K "list" rAppend (tVar 3) (tCons (tOp (rIxL d.K) (tVar 7) (aDiv (aMod (aDiv (tVar 6) (tC (.int 11))) (tC (.int 3))) (tC (.int 2)))) tNil)))) (tSeq (tAsg (aMod (aDiv (tVar 6) (tC (.int 11))) (tC (.int 4))) (gName 8))
  (tSeq (tAsg (aMod (aDiv (tVar 6) (tC (.int 44))) (tC (.int 3))) (gName 9))
  (tSeq (tAsg (tCall (spN_l_tree n d) [] E0 (tCons (tSl (rSlL d.K) (tVar 0) (tPart (tVar 4)) (tPart (aAdd (tVar 4) (tVar 8)))) (tCons (aSub (tVar 1) (tC (.int 1))) (tCons (tVar 2) tNil)))) (gName 10))
  (tSeq (tAsg (tCall (spN_l_tree n d) [] E0 (tCons (tSl (rSlL d.K) (tVar 0) (tPart (aAdd (tVar 4) (tVar 8))) (tPart (aAdd (aAdd (tVar 4) (tVar 8)) (tVar 9)))) (tCons (aSub (tVar 1) (tC (.int 1))) (tCons (tVar 2) tNil)))) (gName 11))
  (tSeq (tAsg (aAdd (aAdd (tVar 4) (tVar 8)) (tVar 9)) (gName 4))
  (tDrop (tBM d.K "list" rAppend (tVar 3) (tCons (tCall (sp_l_sided d) [] E0 (tCons (aDiv (tVar 6) (tC (.int 132))) (tCons (tVar 10) (tCons (tVar 11) (tCons (tVar 2) tNil))))) tNil))))))))))))))
  (tRet (tVar 3)))))
abbrev N_l_made : List Str := ["_law_tree_here", "_law_made_here", "_law_part"]
def t_l_made (n : Nat) (d : Ad) : TS :=
  (tSeq (tAsg (tLst tNil) (gName 1))
  (tSeq (tFor (iList d.K (tVar 0)) (gName 2) (tIfS (tTest (tOp rEq (tOp (rIxT d.K) (tVar 2) (tC (.int 0))) (tC (.str "let")))) (tDrop (tBM d.K "list" rAppend (tVar 1) (tCons (tMake d.cLet (sp_Let_init d) [] E0 (tCons (tOp (rIxT d.K) (tVar 2) (tC (.int 1))) (tCons (tOp (rIxT d.K) (tVar 2) (tC (.int 2))) tNil))) tNil))) (tIfS (tTest (tOp rEq (tOp (rIxT d.K) (tVar 2) (tC (.int 0))) (tC (.str "reckon")))) (tDrop (tBM d.K "list" rAppend (tVar 1) (tCons (tMake d.cReckon (sp_Reckon_init d) [] E0 (tCons (tOp (rIxT d.K) (tVar 2) (tC (.int 1))) (tCons (tOp (rIxT d.K) (tVar 2) (tC (.int 2))) (tCons (tOp (rIxT d.K) (tVar 2) (tC (.int 3))) (tCons (tOp (rIxT d.K) (tVar 2) (tC (.int 4))) tNil))))) tNil))) (tIfS (tTest (tOp rEq (tOp (rIxT d.K) (tVar 2) (tC (.int 0))) (tC (.str "take")))) (tDrop (tBM d.K "list" rAppend (tVar 1) (tCons (tMake d.cTake (sp_Take_init d) [] E0 (tCons (tOp (rIxT d.K) (tVar 2) (tC (.int 1))) (tCons (tOp (rIxT d.K) (tVar 2) (tC (.int 2))) tNil))) tNil))) (tIfS (tTest (tOp rEq (tOp (rIxT d.K) (tVar 2) (tC (.int 0))) (tC (.str "put")))) (tDrop (tBM d.K "list" rAppend (tVar 1) (tCons (tMake d.cPut (sp_Put_init d) [] E0 (tCons (tOp (rIxT d.K) (tVar 2) (tC (.int 1))) (tCons (tOp (rIxT d.K) (tVar 2) (tC (.int 2))) tNil))) tNil))) (tIfS (tTest (tOp rEq (tOp (rIxT d.K) (tVar 2) (tC (.int 0))) (tC (.str "if")))) (tDrop (tBM d.K "list" rAppend (tVar 1) (tCons (tMake d.cIf (sp_If_init d) [] E0 (tCons (tOp (rIxT d.K) (tVar 2) (tC (.int 1))) (tCons (tCall (spN_l_made n d) [] E0 (tCons (tOp (rIxT d.K) (tVar 2) (tC (.int 2))) tNil)) (tCons (tCall (spN_l_made n d) [] E0 (tCons (tOp (rIxT d.K) (tVar 2) (tC (.int 3))) tNil)) tNil)))) tNil))) (tIfS (tTest (tOp rEq (tOp (rIxT d.K) (tVar 2) (tC (.int 0))) (tC (.str "either")))) (tDrop (tBM d.K "list" rAppend (tVar 1) (tCons (tMake d.cEither (sp_Either_init d) [] E0 (tCons (tCall (spN_l_made n d) [] E0 (tCons (tOp (rIxT d.K) (tVar 2) (tC (.int 1))) tNil)) (tCons (tCall (spN_l_made n d) [] E0 (tCons (tOp (rIxT d.K) (tVar 2) (tC (.int 2))) tNil)) tNil))) tNil))) (tIfS (tTest (tOp rEq (tOp (rIxT d.K) (tVar 2) (tC (.int 0))) (tC (.str "try")))) (tDrop (tBM d.K "list" rAppend (tVar 1) (tCons (tMake d.cTry (sp_Try_init d) [] E0 (tCons (tCall (spN_l_made n d) [] E0 (tCons (tOp (rIxT d.K) (tVar 2) (tC (.int 1))) tNil)) (tCons (tOp (rIxT d.K) (tVar 2) (tC (.int 2))) (tCons (tOp (rIxT d.K) (tVar 2) (tC (.int 3))) (tCons (tCall (spN_l_made n d) [] E0 (tCons (tOp (rIxT d.K) (tVar 2) (tC (.int 4))) tNil)) tNil))))) tNil))) (tIfS (tTest (tOp rEq (tOp (rIxT d.K) (tVar 2) (tC (.int 0))) (tC (.str "throw")))) (tDrop (tBM d.K "list" rAppend (tVar 1) (tCons (tMake d.cThrow (sp_Throw_init d) [] E0 (tCons (tOp (rIxT d.K) (tVar 2) (tC (.int 1))) (tCons (tOp (rIxT d.K) (tVar 2) (tC (.int 2))) tNil))) tNil))) (tDrop (tBM d.K "list" rAppend (tVar 1) (tCons (tMakeO d.cWait) tNil))))))))))))
  (tRet (tVar 1))))
local macro_rules | `(tactic| walk_at "callm") => `(tactic| walk_at "mkp")
section
variable {d : Ad} {vs : List V} {H : Hp} {Q : VK} {E : XK}
theorem pure_l_plain (h : sp_l_plain d vs H Q E) : t_l_plain d { nx := fun _ H' => Q .non H', rt := Q } (start N_l_plain vs) H := by
  refine lift_pure h fun ds W Q hp => ?_
  obtain ⟨m, c, rfl, k⟩ := hp
  show WS d.K (t_l_plain d) [some (.raw (.int m)), some (.raw (.int c)), none, none, none, none, none, none, none, none, none] W _
  unfold t_l_plain
  obtain ⟨z, mn, e1, e2, hz, l2, l8⟩ := ab_cut (m := m)
  have zl : z.length ≤ sizeLine := by rw [hz.1, sizeLine_eq]; omega
  walk_at "mgo"
  walk_at "dat"
  refine d_ixL (SeqD.lst _) e1 ?_
  walk_at "mgo"
  refine d_slS (by rw [sizeLine_eq]; decide +kernel) ?_
  rw [e2]
  walk_at "mgo"
  rw [hz.1]
  have pm : 0 < (mn : Int) := by omega
  walk_at "mgo"
  have hcd : ∀ q : Int, CDiv q (mn : Int) := fun q => ⟨pm, by omega⟩
  have h0 : ∀ q : Int, 0 ≤ q % (mn : Int) := fun q => Int.emod_nonneg q (Int.ne_of_gt pm)
  have h1 : ∀ q : Int, q % (mn : Int) < mn := fun q => Int.emod_lt_of_pos q pm
  generalize m / 33 = r
  refine d_ixLet hz l8 (h0 _) (h1 _) fun s1 o1 => ?_
  walk_at "mgo"
  refine d_ixLet hz l8 (h0 _) (h1 _) fun s2 o2 => ?_
  walk_at "mgo"
  refine d_ixLet hz l8 (h0 _) (h1 _) fun s3 o3 => ?_
  walk_at "mgo"
  walk_at "dec"
  · walk_at "mgo"
    refine ⟨c, rfl, ?_⟩
    walk_at "mgo"
    intro p hp
    refine fz_id (ret_frz (W := W) hp (Sub.refl _) ?_)
    have := k [.let_ s1 (c * 982451653 % 2 ^ Int.toNat 64)] (okPs_one ⟨o1, Int.emod_nonneg _ (by decide), Int.emod_lt_of_pos _ (by decide)⟩) (by simp) (by intro p hp; rw [List.mem_singleton.mp hp]; rfl)
    simp only [trsD, trD] at this
    exact this
  · walk_at "mgo"
    walk_at "dec"
    · walk_at "mgo"
      intro p hp
      refine fz_id (ret_frz (W := W) hp (Sub.refl _) ?_)
      have := k [.let_ s1 (r / 1000 % 4)] (okPs_one ⟨o1, by omega, by omega⟩) (by simp) (by intro p hp; rw [List.mem_singleton.mp hp]; rfl)
      simp only [trsD, trD] at this
      exact this
    · walk_at "mgo"
      walk_at "dec"
      · walk_at "mgo"
        walk_at "dat"
        obtain ⟨w, ew, ow⟩ := menuD (l := five) (P := fun w => w ∈ five) (i := r / 1000 % 5) D.str (by omega) (by show r / 1000 % 5 < 5; omega) (fun _ h => h)
        refine d_ixL (SeqD.lst _) ew ?_
        walk_at "mgo"
        intro p hp
        refine fz_id (ret_frz (W := W) hp (Sub.refl _) ?_)
        have := k [.rk w s1 s2 s3] (okPs_one ⟨ow, o1, o2, o3⟩) (by simp) (by intro p hp; rw [List.mem_singleton.mp hp]; rfl)
        simp only [trsD, trD] at this
        exact this
      · walk_at "mgo"
        walk_at "dec"
        · walk_at "mgo"
          intro p hp
          refine fz_id (ret_frz (W := W) hp (Sub.refl _) ?_)
          have := k [.take s1 s2] (okPs_one ⟨o1, o2⟩) (by simp) (by intro p hp; rw [List.mem_singleton.mp hp]; rfl)
          simp only [trsD, trD] at this
          exact this
        · walk_at "mgo"
          walk_at "dec"
          · walk_at "mgo"
            intro p hp
            refine fz_id (ret_frz (W := W) hp (Sub.refl _) ?_)
            have := k [.put s1 s2] (okPs_one ⟨o1, o2⟩) (by simp) (by intro p hp; rw [List.mem_singleton.mp hp]; rfl)
            simp only [trsD, trD] at this
            exact this
          · walk_at "mgo"
            walk_at "dat"
            obtain ⟨w, ew, ow⟩ := menuD (l := (["plus", "minus", "times"] : List Str)) (P := fun w => w ∈ five) (i := r / 1000 % 3) D.str (by omega) (by show r / 1000 % 3 < 3; omega) (fun w h => by
              simp only [List.mem_cons, List.not_mem_nil, or_false] at h
              rcases h with rfl | rfl | rfl <;> simp [five])
            refine d_ixL (SeqD.lst _) ew ?_
            walk_at "mgo"
            walk_at "dat"
            walk_at "dat"
            intro p hp
            refine fz_id (ret_frz (W := W) hp (Sub.refl _) ?_)
            have := k [.let_ s1 (r / 3000 % 3), .take s2 s1, .rk w s2 s2 s3, .put s1 s2] (by simp only [okPs]; exact ⟨⟨o1, by omega, by omega⟩, ⟨o2, o1⟩, ⟨ow, o2, o2, o3⟩, ⟨o1, o2⟩, trivial⟩) (by simp) (by
              intro p hp
              simp only [List.mem_cons, List.not_mem_nil, or_false] at hp
              rcases hp with rfl | rfl | rfl | rfl <;> rfl)
            simp only [trsD, trD] at this
            exact this
theorem sided_tail {W : Wd} {Q : KD} {m : Int} {z : D} {ps os : List Pt} {nm : List Str} {sl : Str} {w : Int} {st : Pt} (hz : SeqD W z (nm.map D.str)) (hnm : Names nm) (ok1 : okPs ps) (ok2 : okPs os) (l1 : lenPs ps ≤ 1000) (osl : Sl sl) (oks : okP st) (ls : lenP st = 1) (nd : ndP st = 1)
    (k : ∀ p : Pt, okP p → lenP p ≤ 6 + lenPs ps + lenPs os → ndP p ≤ 3 + max 4 (max (ndPs ps) (ndPs os)) → Q (trD p) W) :
    WS d.K (t_l_sided_6 d) [some (.raw (.int m)), some (.lst (trsD ps)), some (.lst (trsD os)), some z, some (.raw (.str "abc")), some (.raw (.str sl)), some (.raw (.int w)), some (trD st)] W ⟨fun _ W' => Q .non W', Q, fun _ _ => False, fun _ _ => False⟩ := by
  unfold t_l_sided_6
  have b1 : (trsD ps).length ≤ 1000 := by have := len_lenP ps; rw [trsD_len]; omega
  have fin : ∀ ex : List Pt, okPs ex → lenPs ex ≤ 3 → ndPs ex ≤ 4 →
      WS d.K (t_l_sided_8 d) [some (.raw (.int m)), some (.lst (trsD (ps ++ ex))), some (.lst (trsD os)), some z, some (.raw (.str "abc")), some (.raw (.str sl)), some (.raw (.int w)), some (trD st)] W ⟨fun _ W' => Q .non W', Q, fun _ _ => False, fun _ _ => False⟩ := by
    intro ex oke le ne
    unfold t_l_sided_8
    walk_at "mgo"
    walk_at "dec"
    · walk_at "mgo"
      have := k (.eith (ps ++ ex) os) ⟨okPs_app ok1 oke, ok2⟩ (by simp only [lenP, lenPs_app]; omega) (by simp only [ndP, ndPs_app]; omega)
      rw [trD] at this
      exact ret_dat (Sub.refl _) this
    · walk_at "mgo"
      obtain ⟨n1, e1, o1⟩ := menuD (l := nm) (P := NameOk) (i := m / 81 % 3) D.str (by omega) (by rw [hnm.len]; show m / 81 % 3 < 3; omega) hnm.ok
      refine d_ixL hz e1 ?_
      walk_at "mgo"
      refine d_ixLet abc_letters (by decide) (by omega) (by omega) fun s2 os2 => ?_
      walk_at "mgo"
      have := k (.tryy (ps ++ ex) n1 s2 os) ⟨okPs_app ok1 oke, o1, os2, ok2⟩ (by simp only [lenP, lenPs_app]; omega) (by simp only [ndP, ndPs_app]; omega)
      rw [trD] at this
      exact ret_dat (Sub.refl _) this
  walk_at "mgo"
  walk_at "dec"
  · rename_i hc
    walk_at "mgo"
    walk_at "dat"
    walk_at "dat"
    rw [hc]
    walk_at "mgo"
    have := fin [st] (okPs_one oks) (by simp only [lenPs]; omega) (by simp only [ndPs]; omega)
    rw [trsD_app] at this
    simp only [trsD] at this
    exact this
  · walk_at "mgo"
    walk_at "dec"
    · walk_at "mgo"
      walk_at "dat"
      walk_at "dat"
      walk_at "dat"
      walk_at "dat"
      have := fin [.iff sl [st] []] (okPs_one ⟨osl, okPs_one oks, trivial⟩) (by simp only [lenPs, lenP]; omega) (by simp only [ndPs, ndP]; omega)
      rw [trsD_app] at this
      simp only [trsD, trD] at this
      exact this
    · walk_at "mgo"
      have := fin [] trivial (by simp only [lenPs]; omega) (by simp only [ndPs]; omega)
      rw [List.append_nil] at this
      exact this
theorem pure_l_sided (h : sp_l_sided d vs H Q E) : t_l_sided d { nx := fun _ H' => Q .non H', rt := Q } (start N_l_sided vs) H := by
  refine lift_pure h fun ds W Q hp => ?_
  obtain ⟨m, z, ps, os, rfl, nm, hz, hnm, ok1, ok2, l1, l2, k⟩ := hp
  show WS d.K (t_l_sided d) [some (.raw (.int m)), some (.lst (trsD ps)), some (.lst (trsD os)), some z, none, none, none, none] W _
  unfold t_l_sided
  walk_at "mgo"
  refine d_ixLet abc_letters (by decide) (by omega) (by omega) fun sl osl => ?_
  walk_at "mgo"
  walk_at "dec"
  · walk_at "mgo"
    have := k (.iff sl ps os) ⟨osl, ok1, ok2⟩ (by simp only [lenP]; omega) (by simp only [ndP]; omega)
    rw [trD] at this
    exact ret_dat (Sub.refl _) this
  · walk_at "mgo"
    walk_at "dec"
    · walk_at "mgo"
      obtain ⟨n1, e1, o1⟩ := menuD (l := nm) (P := NameOk) (i := m / 27 % 3) D.str (by omega) (by rw [hnm.len]; show m / 27 % 3 < 3; omega) hnm.ok
      refine d_ixL hz e1 ?_
      walk_at "mgo"
      have := sided_tail (d := d) (m := m) (w := m % 3) (st := .throw n1 sl) hz hnm ok1 ok2 l1 osl ⟨o1, osl⟩ (by simp [lenP]) (by simp [ndP]) k
      rw [trD] at this
      exact this
    · walk_at "mgo"
      have := sided_tail (d := d) (m := m) (w := m % 3) (st := .wait) hz hnm ok1 ok2 l1 osl trivial (by simp [lenP]) (by simp [ndP]) k
      rw [trD] at this
      exact this
theorem pure_l_made {n : Nat} (h : spN_l_made (n + 1) d vs H Q E) : t_l_made n d { nx := fun _ H' => Q .non H', rt := Q } (start N_l_made vs) H := by
  refine lift_pure h fun ds W Q hp => ?_
  obtain ⟨x, rfl, ps, hx, hlen, hl, hnd, k⟩ := hp
  show WS d.K (t_l_made n d) [some x, none, none] W _
  unfold t_l_made
  walk_at "mgo"
  intro R hR
  refine fz_id ?_
  walk_at "mgo"
  refine ⟨fun i e W' => e = [some x, some (.ptr R), none] ∧ W' = wset W R (.lst (psD d (ps.take i))), nx_id ⟨rfl, by simp [psD]⟩, ?_, ?_, ?_⟩
  · rintro i e' W' hi ⟨rfl, rfl⟩
    exact hx.er (Sub.new (Sub.refl _) hR)
  · rintro i u e' W' hi hu ⟨rfl, rfl⟩
    obtain ⟨p, hp, rfl⟩ := trsD_get hu
    have g1 := lenP_mem hp
    have g2 := ndP_mem hp
    have g3 : (psD d (ps.take i)).length ≤ 1000 := by rw [psD_len, List.length_take]; omega
    have g4 : psD d (ps.take (i + 1)) = psD d (ps.take i) ++ [pD d p] := by
      rw [psD_map, psD_map, List.take_succ, hp, List.map_append]; rfl
    have fin : ∀ e' W', EnvLe [some x, some (.ptr R), none] e' → Sub (wset W R (.lst (psD d (ps.take i) ++ [pD d p]))) W' → Nx ((fun i e W' => e = [some x, some (.ptr R), none] ∧ W' = wset W R (.lst (psD d (ps.take i)))) (i + 1)) e' W' := fun e' W' l m => nx_of l (g4 ▸ m) ⟨rfl, rfl⟩
    generalize (fun i e W' => e = [some x, some (D.ptr R), none] ∧ W' = wset W R (Cell.lst (psD d (ps.take i)))) = PP at fin ⊢
    cases p with
    | iff s qs os =>
      simp only [lenP, ndP] at g1 g2
      have j1 := len_lenP qs
      have j2 := len_lenP os
      rw [trD]
      walk_at "mgo"
      refine ⟨_, rfl, qs, SeqD.lst _, by omega, by omega, by omega, ?_⟩
      walk_at "mgo"
      refine ⟨_, rfl, os, SeqD.lst _, by omega, by omega, by omega, ?_⟩
      walk_at "mgo"
      refine ⟨_, _, _, qs, os, rfl, SeqD.lst _, SeqD.lst _, ?_⟩
      walk_at "mgo"
      exact fin _ _ (by walk_at "le") (by walk_at "sub")
    | eith qs os =>
      simp only [lenP, ndP] at g1 g2
      have j1 := len_lenP qs
      have j2 := len_lenP os
      rw [trD]
      walk_at "mgo"
      refine ⟨_, rfl, qs, SeqD.lst _, by omega, by omega, by omega, ?_⟩
      walk_at "mgo"
      refine ⟨_, rfl, os, SeqD.lst _, by omega, by omega, by omega, ?_⟩
      walk_at "mgo"
      refine ⟨_, _, qs, os, rfl, SeqD.lst _, SeqD.lst _, ?_⟩
      walk_at "mgo"
      exact fin _ _ (by walk_at "le") (by walk_at "sub")
    | tryy qs m s os =>
      simp only [lenP, ndP] at g1 g2
      have j1 := len_lenP qs
      have j2 := len_lenP os
      rw [trD]
      walk_at "mgo"
      refine ⟨_, rfl, qs, SeqD.lst _, by omega, by omega, by omega, ?_⟩
      walk_at "mgo"
      refine ⟨_, rfl, os, SeqD.lst _, by omega, by omega, by omega, ?_⟩
      walk_at "mgo"
      refine ⟨_, _, _, _, qs, os, rfl, SeqD.lst _, SeqD.lst _, ?_⟩
      walk_at "mgo"
      exact fin _ _ (by walk_at "le") (by walk_at "sub")
    | _ =>
      rw [trD]
      walk_at "mgo"
      exact fin _ _ (by walk_at "le") (by walk_at "sub")
  · rintro e' W' ⟨rfl, rfl⟩
    walk_at "mgo"
    have : (itS x (trsD ps)).n = ps.length := trsD_len ps
    rw [this, List.take_length]
    exact ret_frz hR (Sub.refl _) k
def treeInv (x : D) (k : Nat) (z : D) (ns : List Int) (W : Wd) (m : Nat) (e : Env) (W' : Wd) : Prop := ∃ (R : Addr) (ps : List Pt) (a : Nat), W R = none ∧ e = [some x, some (.raw (.int k)), some z, some (.ptr R), some (.raw (.int (a : Nat))), none, none, none, none, none, none, none] ∧ W' = wset W R (.lst (trsD ps)) ∧ okPs ps ∧ lenPs ps ≤ 6 * min a ns.length ∧ ndPs ps ≤ 4 + 3 * k ∧ m = ns.length - a
theorem pure_l_tree {n : Nat} (h : spN_l_tree (n + 1) d vs H Q E) : t_l_tree n d { nx := fun _ H' => Q .non H', rt := Q } (start N_l_tree vs) H := by
  refine lift_pure h fun ds W Q hp => ?_
  obtain ⟨x, k, z, rfl, ns, nm, hx, hlen, hz, hnm, hk, kk⟩ := hp
  show WS d.K (t_l_tree n d) [some x, some (.raw (.int k)), some z, none, none, none, none, none, none, none, none, none] W _
  unfold t_l_tree
  walk_at "mgo"
  intro R hR
  refine fz_id ?_
  walk_at "mgo"
  refine ws_while (treeInv x k z ns W) (m := ns.length) (nx_id ⟨R, [], 0, hR, rfl, rfl, trivial, by simp [lenPs], by simp [ndPs], by omega⟩) ?_
  rintro m e' W' ⟨R, ps, a, hR, rfl, rfl, ok, hl, hn, rfl⟩
  have b1 : (trsD ps).length ≤ 1000 := by have := len_lenP ps; rw [trsD_len]; omega
  walk_at "mgo"
  rw [List.length_map]
  walk_at "dec"
  · rename_i hc
    have ha : a < ns.length := by omega
    walk_at "mgo"
    refine d_ixL (by walk_at "sd") (atI_nat (v := D.int ns[a]) (by rw [List.getElem?_map, List.getElem?_eq_getElem ha]; rfl)) ?_
    walk_at "mgo"
    refine ⟨_, rfl, ?_⟩
    generalize ns[a] * 48271 % 999999999989 = mx
    walk_at "mgo"
    rw [show ((a : Int) + 1) = ((a + 1 : Nat) : Int) from rfl]
    have fin : ∀ (e' : Env) (W' : Wd) (R2 : Addr) (qs : List Pt) (b : Nat), W R2 = none → EnvLe [some x, some (.raw (.int k)), some z, some (.ptr R2), some (.raw (.int (b : Nat))), none, none, none, none, none, none, none] e' → Sub (wset W R2 (.lst (trsD ps ++ trsD qs))) W' → a < b → okPs qs → lenPs qs ≤ 6 * (min b ns.length - a) → ndPs qs ≤ 4 + 3 * k →
        ∃ m', m' < ns.length - a ∧ Nx (treeInv x k z ns W m') e' W' := by
      intro e' W' R2 qs b h1 h2 h3 h4 h5 h6 h7
      refine ⟨ns.length - b, by omega, nx_of h2 h3 ⟨R2, ps ++ qs, b, h1, rfl, by rw [trsD_app], okPs_app ok h5, ?_, ?_, rfl⟩⟩
      · rw [lenPs_app]; omega
      · rw [ndPs_app]; omega
    walk_at "dec"
    · walk_at "mgo"
      refine ⟨_, _, rfl, fun qs okq lq pq4 => ?_⟩
      have pq := fun p hp => p4_plain (pq4 p hp)
      have b2 : (trsD qs).length ≤ 4 := by rw [trsD_len]; exact lq
      have b3 := plains_len pq
      have b4 := plains_nd pq
      walk_at "mgo"
      intro p hp
      refine fz_id ?_
      walk_at "mgo"
      exact fin _ _ p qs (a + 1) (by walk_at "wn") (by walk_at "le") (by walk_at "sub") (by omega) okq (by omega) (by omega)
    · walk_at "mgo"
      walk_at "dec"
      · walk_at "mgo"
        refine ⟨_, _, rfl, fun qs okq lq pq4 => ?_⟩
        have pq := fun p hp => p4_plain (pq4 p hp)
        have b2 : (trsD qs).length ≤ 4 := by rw [trsD_len]; exact lq
        have b3 := plains_len pq
        have b4 := plains_nd pq
        walk_at "mgo"
        intro p hp
        refine fz_id ?_
        walk_at "mgo"
        exact fin _ _ p qs (a + 1) (by walk_at "wn") (by walk_at "le") (by walk_at "sub") (by omega) okq (by omega) (by omega)
      · rename_i hk0 hk1
        obtain ⟨k', rfl⟩ : ∃ k', k = k' + 1 := ⟨k - 1, by omega⟩
        walk_at "mgo"
        walk_at "dec"
        · walk_at "mgo"
          obtain ⟨n1, e1, o1⟩ := menuD (l := nm) (P := NameOk) (i := mx / 33 % 3) D.str (by omega) (by rw [hnm.len]; show mx / 33 % 3 < 3; omega) hnm.ok
          refine d_ixL (by walk_at "sd") e1 ?_
          walk_at "mgo"
          refine d_ixLet abc_letters (by decide) (by omega) (by omega) fun s2 os2 => ?_
          walk_at "mgo"
          walk_at "dat"
          obtain ⟨p1, e2, o2, o3, o4⟩ := menuD (l := [Pt.wait, .throw n1 s2]) (P := fun p => okP p ∧ lenP p = 1 ∧ ndP p = 1) (i := mx / 11 % 3 / 2) trD (by omega) (by show mx / 11 % 3 / 2 < 2; omega) (fun p hp => by
            simp only [List.mem_cons, List.not_mem_nil, or_false] at hp
            rcases hp with rfl | rfl
            · exact ⟨trivial, by simp [lenP], by simp [ndP]⟩
            · exact ⟨⟨o1, os2⟩, by simp [lenP], by simp [ndP]⟩)
          refine d_ixL (SeqD.lst _) (by simp only [List.map_cons, List.map_nil, trD] at e2; exact e2) ?_
          walk_at "mgo"
          exact fin _ _ R [p1] (a + 1) hR (by walk_at "le") (by simp only [trsD]; walk_at "sub") (by omega) (okPs_one o2) (by simp only [lenPs]; omega) (by simp only [ndPs]; omega)
        · walk_at "mgo"
          obtain ⟨mn, e3, b3⟩ : ∃ q : Nat, mx / 11 % 4 = (q : Int) ∧ q < 4 := ⟨(mx / 11 % 4).toNat, by omega, by omega⟩
          obtain ⟨mr, e4, b4⟩ : ∃ q : Nat, mx / 44 % 3 = (q : Int) ∧ q < 3 := ⟨(mx / 44 % 3).toNat, by omega, by omega⟩
          rw [e3, e4, cutD_map]
          rw [show (((a + 1 : Nat) : Int) + (mn : Nat)) = ((a + 1 + mn : Nat) : Int) from rfl]
          walk_at "dat"
          have c1 := cutD_len ns (a + 1) (a + 1 + mn)
          have c2 := cutD_len ns (a + 1 + mn) (a + 1 + mn + mr)
          have ek : ((k' + 1 : Nat) : Int) - 1 = (k' : Nat) := by omega
          rw [ek]
          refine ⟨_, k', _, rfl, _, nm, SeqD.lst _, by omega, by walk_at "sd", hnm, by omega, fun q1 ok1 l1 n1 => ?_⟩
          walk_at "mgo"
          rw [cutD_map, show (((a + 1 : Nat) : Int) + (mn : Nat)) = ((a + 1 + mn : Nat) : Int) from rfl, show (((a + 1 + mn : Nat) : Int) + (mr : Nat)) = ((a + 1 + mn + mr : Nat) : Int) from rfl]
          walk_at "dat"
          rw [ek]
          refine ⟨_, k', _, rfl, _, nm, SeqD.lst _, by omega, by walk_at "sd", hnm, by omega, fun q2 ok2 l2 n2 => ?_⟩
          walk_at "mgo"
          refine ⟨_, _, q1, q2, rfl, nm, by walk_at "sd", hnm, ok1, ok2, by omega, by omega, fun p okp lp np => ?_⟩
          walk_at "mgo"
          exact fin _ _ R [p] (a + 1 + mn + mr) hR (by walk_at "le") (by simp only [trsD]; walk_at "sub") (by omega) (okPs_one okp) (by simp only [lenPs]; omega) (by simp only [ndPs]; omega)
  · walk_at "mgo"
    exact ret_frz hR (Sub.refl _) (kk ps ok (by omega) hn)
end
end
set_option Elab.async false
set_option linter.all false
set_option maxRecDepth 100000
set_option maxHeartbeats 400000
set_option autoImplicit false
section
open PySem L2
local macro_rules | `(tactic| walk_at "ne") => `(tactic| first | assumption | exact Ne.symm (by assumption) | ((refine' ne2 ?h1 ?h2); (case h1 => assumption); (case h2 => walk_at "hk")) | ((refine' ne2s ?h1 ?h2); (case h1 => assumption); (case h2 => walk_at "hk")) | exact ne_head (by assumption) | exact ne_of (by assumption) (by assumption) (by intro z; cases z))
local macro_rules | `(tactic| walk_at "hk") => `(tactic| first | assumption | with_reducible exact upd_same | ((with_reducible refine' up_ne ?h1 ?h2); (case h1 => walk_at "ne"); (case h2 => walk_at "hk")) | ((with_reducible refine' ex_at ?h1 ?h2); (case h1 => assumption); (case h2 => walk_at "hk")))
local macro_rules | `(tactic| walk_at "sq") => `(tactic| first | assumption | ((with_reducible refine' SqL.of ?h); (case h => walk_at "hk")) | ((with_reducible refine' ex_sq ?h1 ?h2); (case h1 => assumption); (case h2 => walk_at "sq")))
local macro_rules | `(tactic| walk_at "st") => `(tactic| first | assumption | ((with_reducible refine' SqT.of ?h); (case h => walk_at "hk")) | ((with_reducible refine' ex_st ?h1 ?h2); (case h1 => assumption); (case h2 => walk_at "st")))
local macro_rules | `(tactic| walk_at "sc") => `(tactic| first | assumption | decide | omega | (unfold CMul; omega) | (unfold CDiv; omega) | (unfold CPow; decide) | (unfold CDiv; decide))
local macro_rules | `(tactic| walk_at "go") => `(tactic| (repeat (first | walk_at "step" | walk_at "callx")))
local macro_rules | `(tactic| walk_at "len") => `(tactic| first
  | (obtain ⟨rfl, _⟩ := h; rfl) | (obtain ⟨_, rfl, _⟩ := h; rfl) | (obtain ⟨_, _, rfl, _⟩ := h; rfl) | (obtain ⟨_, _, _, rfl, _⟩ := h; rfl) | (obtain ⟨_, _, _, _, rfl, _⟩ := h; rfl)
  | (obtain ⟨_, _, _, _, _, rfl, _⟩ := h; rfl) | (obtain ⟨_, _, _, _, _, _, rfl, _⟩ := h; rfl) | (obtain ⟨_, _, _, _, _, _, _, rfl, _⟩ := h; rfl) | (obtain ⟨_, _, _, _, _, _, _, _, rfl, _⟩ := h; rfl)
  | (obtain ⟨_, _, _, _, _, _, _, _, _, rfl, _⟩ := h; rfl) | (obtain ⟨_, _, _, _, _, _, _, _, _, _, rfl, _⟩ := h; rfl))
local macro_rules | `(tactic| walk_at "sd") => `(tactic| first | with_reducible assumption | with_reducible exact SeqD.lst _ | with_reducible exact SeqD.scr _ | ((with_reducible refine' SeqD.own ?h); (case h => walk_at "wk")) | ((with_reducible refine' SeqD.er ?m ?h); (case h => with_reducible assumption); (case m => walk_at "sub")))
local macro_rules | `(tactic| walk_at "cd") => `(tactic| first | with_reducible assumption | with_reducible exact CatD.lst _ | ((with_reducible refine' CatD.own ?h); (case h => walk_at "wk")))
local macro_rules | `(tactic| walk_at "le") => `(tactic| repeat (first | exact EnvLe.nil | exact EnvLe.refl _ | with_reducible refine' EnvLe.cons (.inl rfl) ?_ | with_reducible refine' EnvLe.cons (.inr rfl) ?_))
local macro_rules | `(tactic| walk_at "mat") => `(tactic| first | ((with_reducible refine' MAt.ins ?h ?l); (case h => walk_at "wk"); (case l => rfl)) | ((with_reducible refine' log_mat ?h ?l ?l2); (case h => walk_at "wk"); (case l => decide +kernel); (case l2 => decide +kernel)))
abbrev Dm := List (Int × Int)
def encM (m : Dm) : List (Key × V) := m.map fun p => (.inl p.1, .int p.2)
def dget (m : Dm) (b : Int) : Option Int := (m.find? fun p => decide (p.1 = b)).map (·.2)
def dput (m : Dm) (b n : Int) : Dm := if (m.any fun p => decide (p.1 = b)) = true then m.map (fun p => if p.1 = b then (p.1, n) else p) else m ++ [(b, n)]
theorem dget_pos {p : Int × Int} {r : Dm} {k : Int} (e : p.1 = k) : dget (p :: r) k = some p.2 := by simp [dget, List.find?_cons, e]
theorem dget_neg {p : Int × Int} {r : Dm} {k : Int} (e : ¬ p.1 = k) : dget (p :: r) k = dget r k := by simp [dget, List.find?_cons, e]
theorem valV_enc : ∀ (m : Dm) (b : Int), valV (encM m) (.inl b : Key) = (dget m b).map V.int
  | [], _ => rfl
  | p :: r, b => by
    have ih := valV_enc r b
    show valV ((Sum.inl p.1, V.int p.2) :: encM r) (.inl b : Key) = _
    by_cases e : p.1 = b
    · rw [valV_pos (by rw [e]), dget_pos e]; rfl
    · rw [valV_neg (fun q => e (Sum.inl.inj q)), dget_neg e, ih]
theorem dget_any (b : Int) : ∀ m : Dm, (m.any fun p => decide (p.1 = b)) = (dget m b).isSome
  | [] => rfl
  | p :: r => by
    rw [List.any_cons]
    by_cases e : p.1 = b
    · rw [dget_pos e, decide_eq_true e]; rfl
    · rw [dget_neg e, decide_eq_false e, Bool.false_or]; exact dget_any b r
theorem putK_enc (m : Dm) (b n : Int) : putK (encM m) (.inl b : Key) (.int n) = encM (dput m b n) := by
  unfold putK dput
  rw [valV_any, valV_enc, dget_any]
  have e : ((dget m b).map V.int).isSome = (dget m b).isSome := by cases dget m b <;> rfl
  rw [e]
  split
  · unfold encM
    rw [List.map_map, List.map_map]
    refine List.map_congr_left fun p _ => ?_
    show (if (Sum.inl p.1 : Key) = .inl b then ((Sum.inl p.1 : Key), V.int n) else (Sum.inl p.1, V.int p.2)) = ((Sum.inl (if p.1 = b then (p.1, n) else p).1 : Key), V.int (if p.1 = b then (p.1, n) else p).2)
    by_cases h : p.1 = b
    · rw [if_pos (by rw [h]), if_pos h]
    · rw [if_neg (fun q => h (Sum.inl.inj q)), if_neg h]
  · unfold encM
    rw [List.map_append]
    rfl
theorem dput_len (m : Dm) (b n : Int) : (dput m b n).length ≤ m.length + 1 := by
  unfold dput
  split <;> simp
theorem dget_put (m : Dm) (b n c : Int) : dget (dput m b n) c = if c = b then some n else dget m c := by
  have h := valV_put (encM m) (.inl b : Key) (.inl c : Key) (.int n)
  rw [putK_enc, valV_enc, valV_enc] at h
  by_cases e : c = b
  · subst e
    rw [if_pos rfl] at h ⊢
    cases g : dget (dput m c n) c with
    | none => rw [g] at h; cases h
    | some y => rw [g] at h; injection h with h; injection h with h; rw [h]
  · rw [if_neg e]
    rw [if_neg (fun q => e (Sum.inl.inj q))] at h
    cases g : dget (dput m b n) c with
    | none =>
      rw [g] at h
      cases g2 : dget m c with
      | none => rfl
      | some y => rw [g2] at h; cases h
    | some y =>
      rw [g] at h
      cases g2 : dget m c with
      | none => rw [g2] at h; cases h
      | some z => rw [g2] at h; injection h with h; injection h with h; rw [h]
def keysM (m : Dm) : List Int := m.map (·.1)
def sortK (m : Dm) : List Int := (keysM m).mergeSort (fun a b => decide (a ≤ b))
def bx (m : Dm) : List (Int × Int) := (sortK m).map fun b => (b, (dget m b).getD 0)
theorem sortK_perm (m : Dm) : (sortK m).Perm (keysM m) := List.mergeSort_perm _ _
theorem sortK_up (m : Dm) : (sortK m).Pairwise (· ≤ ·) := by
  have h := List.pairwise_mergeSort (le := fun a b : Int => decide (a ≤ b)) (fun a b c h1 h2 => by simp at *; omega) (fun a b => by simp; omega) (keysM m)
  exact h.imp fun h => by simpa using h
theorem sortK_is {m : Dm} {ys : List Int} (hp : ys.Perm (keysM m)) (hs : ys.Pairwise (· ≤ ·)) : ys = sortK m := PySem.W.ksm_same (hp.trans (sortK_perm m).symm) hs (sortK_up m)
theorem bx_len (m : Dm) : (bx m).length = m.length := by
  unfold bx
  rw [List.length_map, (sortK_perm m).length_eq]
  exact List.length_map _
theorem dget_in {m : Dm} {b : Int} (h : b ∈ keysM m) : ∃ n, dget m b = some n := by
  cases e : dget m b with
  | some n => exact ⟨n, rfl⟩
  | none =>
    exfalso
    have h1 := dget_any b m
    rw [e] at h1
    obtain ⟨p, hp, q⟩ := List.mem_map.mp h
    have h2 : (m.any fun p => decide (p.1 = b)) = true := List.any_eq_true.mpr ⟨p, hp, decide_eq_true q⟩
    rw [h2] at h1
    cases h1
def ownM (ts : List Dm) (b : Int) : Option Int := ts.reverse.findSome? fun m => dget m b
def putAll (m top : Dm) : Dm := top.foldl (fun acc p => dput acc p.1 p.2) m
theorem putAll_len : ∀ (top m : Dm), (putAll m top).length ≤ m.length + top.length
  | [], m => Nat.le_refl _
  | a :: r, m => by
    have h := putAll_len r (dput m a.1 a.2)
    have h2 := dput_len m a.1 a.2
    show (putAll (dput m a.1 a.2) r).length ≤ _
    simp only [List.length_cons]
    omega
structure KeysOk (m : Dm) : Prop where
  nd : (keysM m).Nodup
  le : ∀ k ∈ keysM m, 0 ≤ k ∧ k < 16
theorem KeysOk.nil : KeysOk [] := ⟨List.nodup_nil, fun _ h => by simp [keysM] at h⟩
theorem keys_put (m : Dm) (b n : Int) : keysM (dput m b n) = if (m.any fun p => decide (p.1 = b)) = true then keysM m else keysM m ++ [b] := by
  unfold dput
  by_cases h : (m.any fun p => decide (p.1 = b)) = true
  · rw [if_pos h, if_pos h]
    unfold keysM
    rw [List.map_map]
    refine List.map_congr_left fun p _ => ?_
    show (if p.1 = b then (p.1, n) else p).1 = p.1
    split <;> rfl
  · rw [if_neg h, if_neg h]
    unfold keysM
    rw [List.map_append]
    rfl
theorem KeysOk.put {m : Dm} (h : KeysOk m) {b : Int} (n : Int) (hb : 0 ≤ b ∧ b < 16) : KeysOk (dput m b n) := by
  have e := keys_put m b n
  by_cases q : (m.any fun p => decide (p.1 = b)) = true
  · rw [if_pos q] at e
    exact ⟨by rw [e]; exact h.nd, by rw [e]; exact h.le⟩
  · rw [if_neg q] at e
    refine ⟨?_, ?_⟩
    · rw [e]
      refine nd_snoc h.nd fun hm => q ?_
      obtain ⟨p, hp, e2⟩ := List.mem_map.mp hm
      exact List.any_eq_true.mpr ⟨p, hp, decide_eq_true e2⟩
    · rw [e]
      intro k hk
      rcases List.mem_append.mp hk with hk | hk
      · exact h.le k hk
      · rw [List.mem_singleton.mp hk]; exact hb
theorem KeysOk.all : ∀ (top m : Dm), KeysOk m → KeysOk top → KeysOk (putAll m top)
  | [], m, h, _ => h
  | p :: r, m, h, ht => by
    have h1 := ht.le p.1 (by simp [keysM])
    have h2 : KeysOk r := ⟨(List.nodup_cons.mp ht.nd).2, fun k hk => ht.le k (List.mem_cons_of_mem _ hk)⟩
    exact KeysOk.all r (dput m p.1 p.2) (h.put p.2 h1) h2
theorem sortK_range {m : Dm} (h : KeysOk m) : sortK m = ((List.range 16).filter fun i : Nat => (dget m (i : Int)).isSome).map fun i : Nat => (i : Int) := by
  refine (sortK_is ?_ ?_).symm
  · refine (List.perm_ext_iff_of_nodup ?_ h.nd).mpr fun k => ?_
    · exact List.Pairwise.map _ (fun a b (hab : a ≠ b) => by omega) ((List.nodup_range).filter _)
    · rw [List.mem_map]
      constructor
      · rintro ⟨i, hi, rfl⟩
        have := (List.mem_filter.mp hi).2
        rw [← dget_any] at this
        obtain ⟨p, hp, q⟩ := List.any_eq_true.mp this
        exact List.mem_map.mpr ⟨p, hp, of_decide_eq_true q⟩
      · intro hk
        have h1 := h.le k hk
        obtain ⟨n, hn⟩ := dget_in hk
        refine ⟨k.toNat, List.mem_filter.mpr ⟨List.mem_range.mpr (by omega), ?_⟩, by omega⟩
        rw [show ((k.toNat : Nat) : Int) = k by omega, hn]; rfl
  · have h1 : (List.range 16).Pairwise (· < ·) := List.pairwise_lt_range
    exact List.Pairwise.map _ (fun a b (hab : a < b) => by omega) (h1.filter _)
theorem KeysOk.len {m : Dm} (h : KeysOk m) : m.length ≤ 16 := by
  have h1 : (sortK m).length = m.length := by rw [(sortK_perm m).length_eq]; exact List.length_map _
  rw [← h1, sortK_range h, List.length_map]
  have h2 := List.length_filter_le (fun i : Nat => (dget m (i : Int)).isSome) (List.range 16)
  rwa [List.length_range] at h2
theorem bx_range {m : Dm} (h : KeysOk m) : bx m = ((List.range 16).filter fun i : Nat => (dget m (i : Int)).isSome).map fun i : Nat => ((i : Int), (dget m (i : Int)).getD 0) := by
  unfold bx
  rw [sortK_range h, List.map_map]
  rfl
def dmD (m : Dm) : List (Key × D) := m.map fun p => (.inl p.1, .raw (.int p.2))
theorem dmD_len (m : Dm) : (dmD m).length = m.length := List.length_map _
theorem valD_dm : ∀ (m : Dm) (b : Int), valD (dmD m) (.inl b : Key) = (dget m b).map D.int
  | [], _ => rfl
  | p :: r, b => by
    have ih := valD_dm r b
    unfold valD dmD at *
    rw [List.map_cons, List.find?_cons]
    by_cases e : p.1 = b
    · rw [dget_pos e]; simp [e]
    · rw [dget_neg e, ← ih]
      have : ¬ (Sum.inl p.1 : Key) = .inl b := fun q => e (Sum.inl.inj q)
      simp [this]
theorem any_dm (m : Dm) (b : Int) : ((dmD m).any fun kv => decide (kv.1 = (.inl b : Key))) = (m.any fun p => decide (p.1 = b)) := by
  unfold dmD
  rw [List.any_map]
  congr 1
  funext p
  show decide ((Sum.inl p.1 : Key) = .inl b) = decide (p.1 = b)
  refine decide_eq_decide.mpr ⟨fun q => Sum.inl.inj q, fun q => by rw [q]⟩
theorem putKD_dm (m : Dm) (b n : Int) : putKD (dmD m) (.inl b : Key) (.raw (.int n)) = dmD (dput m b n) := by
  unfold putKD dput
  rw [any_dm]
  split
  · unfold dmD
    rw [List.map_map, List.map_map]
    refine List.map_congr_left fun p _ => ?_
    show (if (Sum.inl p.1 : Key) = .inl b then ((Sum.inl p.1 : Key), D.raw (V.int n)) else (Sum.inl p.1, D.raw (V.int p.2))) = ((Sum.inl (if p.1 = b then (p.1, n) else p).1 : Key), D.raw (V.int (if p.1 = b then (p.1, n) else p).2))
    by_cases h : p.1 = b
    · rw [if_pos (by rw [h]), if_pos h]
    · rw [if_neg (fun q => h (Sum.inl.inj q)), if_neg h]
  · unfold dmD
    rw [List.map_append]
    rfl
theorem dmD_keys (m : Dm) : (dmD m).map (·.1) = (keysM m).map Sum.inl := by
  unfold dmD keysM
  rw [List.map_map, List.map_map]
  rfl
section
variable {K : PySem.W.Frag} {e : Env} {W : Wd} {te : TE} {Q : KD} {ts : TS} {E : DE} {x d : D} {QI : ItD → Wd → Prop} {B H : Hp} {a : Addr}
theorem repP_keys {κ : Type} {S : Hp} {r : List (κ × V)} {q : List (κ × D)} (h : RepP K S r q) : r.map (·.1) = q.map (·.1) := by
  induction h with
  | nil => rfl
  | cons h _ ih => rw [List.map_cons, List.map_cons, ih]
theorem d_sortD {m : Dm} (h : DctD W x (dmD m)) (l : m.length < 64) (q : ∀ p, W p = none → FzQ Q (.ptr p) (wset W p (.lst ((sortK m).map D.int)))) : RC K rSortedD [x] W Q := rc_fz fun B H vs k s r hk => by
  cases r with
  | cons r1 r2 =>
    cases r2
    obtain ⟨a, kvs, rfl, g1, g2⟩ := dct_sem s r1 h
    refine ⟨a, kvs, keysM m, rfl, g1, by rw [repP_keys g2, dmD_keys], by unfold keysM; rw [List.length_map]; exact l, fun ys p hp hs hn => ?_⟩
    rw [sortK_is hp hs]
    refine hk _ B _ _ _ (Evl.Ex.refl _) (s.new hn (.lst (?_ : Reps K B ((sortK m).map V.int) ((sortK m).map D.int)))) (.raw _) (q p (s.nnone hn))
    have := Reps.raws (K := K) (S := B) ((sortK m).map V.int)
    rwa [List.map_map] at this
theorem ws_open {n : Nat} {X : List Addr → Wd} (h : W a = some (.abs n X)) (q : ∀ F, F.length = n → F.Nodup → F.head? = some a → (∀ b ∈ F, b ≠ a → W b = none) → WS K ts e (addW W F (X F)) E) : WS K ts e W E := fun Dn B σ H s r => by
  obtain ⟨F, h1, h2, h3, h4, h5⟩ := s.open h
  exact q F h1 h2 h3 h4 Dn B σ H h5 r
theorem close_vs {W W1 : Wd} {n : Nat} {X : List Addr → Wd} {F : List Addr} (hl : F.length = n) (hd : F.Nodup) (hh : F.head? = some a) (hf : ∀ b ∈ F, b ≠ a → W b = none) (hx : ∀ b, (X F b).isSome = true ↔ b ∈ F) (he : ∀ b ∈ F, W1 b = X F b) (ho : ∀ b c, b ∉ F → W b = some c → W1 b = some c) : Vs W1 (wset W a (.abs n X)) := by
  refine Vs.trans (W' := addW (wset W a (.abs n X)) F (X F)) (Vs.of fun b c q => ?_) (vs_close ws_same hl hd hh (fun b hb hne => by rw [ws_ne hne]; exact hf b hb hne) hx)
  by_cases z : b ∈ F
  · rw [aw_in z] at q; rw [he b z]; exact q
  · rw [aw_out z] at q
    have : b ≠ a := fun w => z (w ▸ head_mem hh)
    rw [ws_ne this] at q
    exact ho b c z q
end
def LogX (d : Ad) (ts : List Dm) (sn : Dm) : List Addr → Wd
  | L :: T :: S :: as => fun b => if b = L then some (.ins d.cLog [("tiers", .raw (.ref T)), ("seen", .raw (.ref S))]) else if b = T then some (.lst (as.map D.ptr)) else if b = S then some (.dct (dmD sn)) else ((as.zip ts).lookup b).map fun t => .dct (dmD t)
  | _ => fun _ => none
def logC (d : Ad) (ts : List Dm) (sn : Dm) : Cell := .abs (3 + ts.length) (LogX d ts sn)
structure TLog (d : Ad) : Prop where
  cl : Cls d.K d.cLog
  n1 : NoAttr d.K d.cLog "tiers"
  n2 : NoAttr d.K d.cLog "seen"
structure LogIn (d : Ad) (W1 : Wd) (L T S : Addr) (as : List Addr) (ts : List Dm) (sn : Dm) : Prop where
  hL : W1 L = some (.ins d.cLog [("tiers", .raw (.ref T)), ("seen", .raw (.ref S))])
  hT : W1 T = some (.lst (as.map D.ptr))
  hS : W1 S = some (.dct (dmD sn))
  ln : as.length = ts.length
  at' : ∀ (i : Nat) (a : Addr) (t : Dm), as[i]? = some a → ts[i]? = some t → W1 a = some (.dct (dmD t))
  nd : (L :: T :: S :: as).Nodup
theorem zip_lookup {as : List Addr} {ts : List Dm} (nd : as.Nodup) (ln : as.length = ts.length) {i : Nat} {a : Addr} {t : Dm} (h : as[i]? = some a) (k : ts[i]? = some t) : (as.zip ts).lookup a = some t := by
  induction as generalizing ts i with
  | nil => simp at h
  | cons b as ih =>
    cases ts with
    | nil => simp at k
    | cons u ts =>
      rw [List.zip_cons_cons, List.lookup_cons]
      cases i with
      | zero => cases h; cases k; simp
      | succ i =>
        have hm : a ∈ as := List.mem_of_getElem? (by simpa using h)
        have : a ≠ b := fun q => (List.nodup_cons.mp nd).1 (q ▸ hm)
        rw [beq_eq_false_iff_ne.mpr this]
        exact ih (List.nodup_cons.mp nd).2 (by simpa using ln) (by simpa using h) (by simpa using k)
theorem zip_none {as : List Addr} {ts : List Dm} (ln : as.length = ts.length) (b : Addr) : ((as.zip ts).lookup b).isSome = true ↔ b ∈ as := by
  induction as generalizing ts with
  | nil => simp
  | cons a as ih =>
    cases ts with
    | nil => simp at ln
    | cons t ts =>
      rw [List.zip_cons_cons, List.lookup_cons]
      by_cases q : b = a
      · subst q; simp
      · rw [beq_eq_false_iff_ne.mpr q]
        rw [ih (by simpa using ln)]
        simp [q]
theorem LogX_eq (d : Ad) (ts : List Dm) (sn : Dm) (L T S : Addr) (as : List Addr) (b : Addr) : LogX d ts sn (L :: T :: S :: as) b = if b = L then some (.ins d.cLog [("tiers", .raw (.ref T)), ("seen", .raw (.ref S))]) else if b = T then some (.lst (as.map D.ptr)) else if b = S then some (.dct (dmD sn)) else ((as.zip ts).lookup b).map fun t => .dct (dmD t) := rfl
theorem LogX_dom {d : Ad} {ts : List Dm} {sn : Dm} {L T S : Addr} {as : List Addr} (ln : as.length = ts.length) (b : Addr) : (LogX d ts sn (L :: T :: S :: as) b).isSome = true ↔ b ∈ L :: T :: S :: as := by
  rw [LogX_eq]
  by_cases h1 : b = L
  · rw [if_pos h1]; simp [h1]
  · rw [if_neg h1]
    by_cases h2 : b = T
    · rw [if_pos h2]; simp [h2]
    · rw [if_neg h2]
      by_cases h3 : b = S
      · rw [if_pos h3]; simp [h3]
      · rw [if_neg h3, Option.isSome_map, zip_none ln b]
        simp [h1, h2, h3]
theorem LogIn.X {d : Ad} {W1 : Wd} {L T S : Addr} {as : List Addr} {ts : List Dm} {sn : Dm} (g : LogIn d W1 L T S as ts sn) : ∀ b ∈ L :: T :: S :: as, W1 b = LogX d ts sn (L :: T :: S :: as) b := by
  intro b hb
  have nd := g.nd
  simp only [List.nodup_cons, List.mem_cons, not_or] at nd
  rw [LogX_eq]
  by_cases h1 : b = L
  · rw [if_pos h1, h1, g.hL]
  · by_cases h2 : b = T
    · rw [if_neg h1, if_pos h2, h2, g.hT]
    · by_cases h3 : b = S
      · rw [if_neg h1, if_neg h2, if_pos h3, h3, g.hS]
      · rw [if_neg h1, if_neg h2, if_neg h3]
        have hm : b ∈ as := by simpa [h1, h2, h3] using hb
        obtain ⟨i, hi⟩ := List.getElem?_of_mem hm
        have hlt := (List.getElem?_eq_some_iff.mp hi).1
        have ht := List.getElem?_eq_getElem (l := ts) (i := i) (by rw [← g.ln]; exact hlt)
        rw [zip_lookup nd.2.2.2 g.ln hi ht, g.at' i b _ hi ht]
        rfl
theorem log_close {d : Ad} {W W1 : Wd} {L T S : Addr} {as : List Addr} {ts : List Dm} {sn : Dm} (g : LogIn d W1 L T S as ts sn) (hf : ∀ b ∈ T :: S :: as, W b = none) (ho : ∀ b c, b ∉ L :: T :: S :: as → W b = some c → W1 b = some c) : Vs W1 (wset W L (logC d ts sn)) :=
  close_vs (F := L :: T :: S :: as) (by have := g.ln; simp [this]; omega) g.nd rfl (fun b hb hne => hf b (by simpa [hne] using hb)) (LogX_dom g.ln) g.X ho
theorem ws_openLog {d : Ad} {K : PySem.W.Frag} {e : Env} {W : Wd} {ts' : TS} {E : DE} {L : Addr} {ts : List Dm} {sn : Dm} (h : W L = some (logC d ts sn)) (q : ∀ W1 T S as, LogIn d W1 L T S as ts sn → (∀ b ∈ T :: S :: as, W b = none) → (∀ b, b ∉ L :: T :: S :: as → W1 b = W b) → WS K ts' e W1 E) : WS K ts' e W E := by
  refine ws_open h fun F h1 h2 h3 h4 => ?_
  match F, h1, h2, h3, h4 with
  | L0 :: T :: S :: as, h1, h2, h3, h4 =>
    cases h3
    have ln : as.length = ts.length := by simp at h1; omega
    have nd := h2
    simp only [List.nodup_cons, List.mem_cons, not_or] at nd
    have eq : ∀ b ∈ L :: T :: S :: as, addW W (L :: T :: S :: as) (LogX d ts sn (L :: T :: S :: as)) b = LogX d ts sn (L :: T :: S :: as) b := fun b hb => aw_in hb
    refine q _ T S as ⟨?_, ?_, ?_, ln, fun i a t hi ht => ?_, h2⟩ (fun b hb => h4 b (List.mem_cons_of_mem _ hb) (fun w => ?_)) (fun b hb => aw_out hb)
    · rw [eq _ (by simp)]; rw [LogX_eq]; rw [if_pos rfl]
    · rw [eq _ (by simp)]; rw [LogX_eq]; rw [if_neg (fun w => nd.1.1 w.symm), if_pos rfl]
    · rw [eq _ (by simp)]; rw [LogX_eq]; rw [if_neg (fun w => nd.1.2.1 w.symm), if_neg (fun w => nd.2.1.1 w.symm), if_pos rfl]
    · have hm := List.mem_of_getElem? hi
      rw [eq _ (by simp [hm])]
      rw [LogX_eq]
      have z1 : a ≠ L := fun w => nd.1.2.2 (w ▸ hm)
      have z2 : a ≠ T := fun w => nd.2.1.2 (w ▸ hm)
      have z3 : a ≠ S := fun w => nd.2.2.1 (w ▸ hm)
      rw [if_neg z1, if_neg z2, if_neg z3, zip_lookup nd.2.2.2 ln hi ht]
      rfl
    · subst w
      have := (List.nodup_cons.mp h2).1
      exact this hb
  | [], h1, _, _, _ => simp at h1; omega
  | [_], h1, _, _, _ => simp at h1; omega
  | [_, _], h1, _, _, _ => simp at h1; omega
theorem LogIn.nds {d : Ad} {W1 : Wd} {L T S : Addr} {as : List Addr} {ts : List Dm} {sn : Dm} (g : LogIn d W1 L T S as ts sn) : L ≠ T ∧ L ≠ S ∧ T ≠ S ∧ (∀ x ∈ as, x ≠ L ∧ x ≠ T ∧ x ≠ S) ∧ as.Nodup := by
  have nd := g.nd
  simp only [List.nodup_cons, List.mem_cons, not_or] at nd
  exact ⟨nd.1.1, nd.1.2.1, nd.2.1.1, fun x hx => ⟨fun q => nd.1.2.2 (q ▸ hx), fun q => nd.2.1.2 (q ▸ hx), fun q => nd.2.2.1 (q ▸ hx)⟩, nd.2.2.2⟩
theorem LogIn.of {d : Ad} {W1 : Wd} {L T S : Addr} {as : List Addr} {ts : List Dm} {sn : Dm} (g : LogIn d W1 L T S as ts sn) : ∀ x ∈ L :: T :: S :: as, ∃ c, W1 x = some c := fun x hx => by
  have := (LogX_dom (d := d) (sn := sn) g.ln x).mpr hx
  rw [← g.X x hx] at this
  exact Option.isSome_iff_exists.mp this
theorem LogIn.setTop {d : Ad} {W1 : Wd} {L T S x : Addr} {as : List Addr} {ts : List Dm} {t t' sn : Dm} (g : LogIn d W1 L T S (as ++ [x]) (ts ++ [t]) sn) : LogIn d (wset W1 x (.dct (dmD t'))) L T S (as ++ [x]) (ts ++ [t']) sn := by
  obtain ⟨n1, n2, n3, n4, n5⟩ := g.nds
  have nx := n4 x (by simp)
  have ln : as.length = ts.length := by have := g.ln; simpa using this
  refine ⟨by rw [ws_ne nx.1.symm]; exact g.hL, by rw [ws_ne nx.2.1.symm]; exact g.hT, by rw [ws_ne nx.2.2.symm]; exact g.hS, by simp [ln], fun i a u h k => ?_, g.nd⟩
  by_cases q : i < as.length
  · rw [List.getElem?_append_left q] at h
    rw [List.getElem?_append_left (ln ▸ q)] at k
    have : a ≠ x := fun w => (List.nodup_append.mp n5).2.2 a (List.mem_of_getElem? h) x (by simp) w
    rw [ws_ne this]
    exact g.at' i a u (by rw [List.getElem?_append_left q]; exact h) (by rw [List.getElem?_append_left (ln ▸ q)]; exact k)
  · have hi := (List.getElem?_eq_some_iff.mp h).1
    have : i = as.length := by rw [List.length_append, List.length_singleton] at hi; omega
    subst this
    simp at h
    rw [ln] at k
    simp at k
    subst h k
    exact ws_same
theorem LogIn.setSeen {d : Ad} {W1 : Wd} {L T S : Addr} {as : List Addr} {ts : List Dm} {sn sn' : Dm} (g : LogIn d W1 L T S as ts sn) : LogIn d (wset W1 S (.dct (dmD sn'))) L T S as ts sn' := by
  obtain ⟨n1, n2, n3, n4, n5⟩ := g.nds
  exact ⟨by rw [ws_ne n2]; exact g.hL, by rw [ws_ne n3]; exact g.hT, ws_same, g.ln, fun i a u h k => by rw [ws_ne (n4 a (List.mem_of_getElem? h)).2.2]; exact g.at' i a u h k, g.nd⟩
theorem LogIn.push {d : Ad} {W1 : Wd} {L T S y : Addr} {as : List Addr} {ts : List Dm} {sn : Dm} (g : LogIn d W1 L T S as ts sn) (hy : W1 y = none) : LogIn d (wset (wset W1 y (.dct [])) T (.lst (as.map D.ptr ++ [.ptr y]))) L T S (as ++ [y]) (ts ++ [[]]) sn := by
  obtain ⟨n1, n2, n3, n4, n5⟩ := g.nds
  have ny : ∀ x ∈ L :: T :: S :: as, x ≠ y := fun x hx w => by
    obtain ⟨c, hc⟩ := g.of x hx
    rw [w, hy] at hc; cases hc
  have a1 := ny L (by simp)
  have a2 := ny T (by simp)
  have a3 := ny S (by simp)
  have a4 : ∀ x ∈ as, x ≠ y := fun x hx => ny x (by simp [hx])
  refine ⟨by rw [ws_ne n1, ws_ne a1]; exact g.hL, by rw [ws_same, List.map_append]; rfl, by rw [ws_ne n3.symm, ws_ne a3]; exact g.hS, by simp [g.ln], fun i a u h k => ?_, ?_⟩
  · by_cases q : i < as.length
    · rw [List.getElem?_append_left q] at h
      rw [List.getElem?_append_left (g.ln ▸ q)] at k
      have hm := List.mem_of_getElem? h
      rw [ws_ne (n4 a hm).2.1, ws_ne (a4 a hm)]
      exact g.at' i a u h k
    · have hi := (List.getElem?_eq_some_iff.mp h).1
      have : i = as.length := by rw [List.length_append, List.length_singleton] at hi; omega
      subst this
      simp at h
      rw [g.ln] at k
      simp at k
      subst h k
      rw [ws_ne a2.symm, ws_same]; rfl
  · simp only [List.nodup_cons, List.mem_cons, List.mem_append, not_or, List.not_mem_nil, or_false]
    refine ⟨⟨n1, n2, fun z => (n4 L z).1 rfl, a1⟩, ⟨n3, fun z => (n4 T z).2.1 rfl, a2⟩, ⟨fun z => (n4 S z).2.2 rfl, a3⟩, ?_⟩
    exact List.nodup_append.mpr ⟨n5, by simp, fun a ha b hb => by rw [List.mem_singleton.mp hb]; exact a4 a ha⟩
theorem LogIn.pop {d : Ad} {W1 : Wd} {L T S x : Addr} {as : List Addr} {ts : List Dm} {t sn : Dm} (g : LogIn d W1 L T S (as ++ [x]) (ts ++ [t]) sn) : LogIn d (wset W1 T (.lst (as.map D.ptr))) L T S as ts sn := by
  obtain ⟨n1, n2, n3, n4, n5⟩ := g.nds
  have ln : as.length = ts.length := by have := g.ln; simpa using this
  refine ⟨by rw [ws_ne n1]; exact g.hL, ws_same, by rw [ws_ne n3.symm]; exact g.hS, ln, fun i a u h k => ?_, ?_⟩
  · have hi := (List.getElem?_eq_some_iff.mp h).1
    rw [ws_ne (n4 a (List.mem_append_left _ (List.mem_of_getElem? h))).2.1]
    exact g.at' i a u (by rw [List.getElem?_append_left hi]; exact h) (by rw [List.getElem?_append_left (ln ▸ hi)]; exact k)
  · simp only [List.nodup_cons, List.mem_cons, not_or]
    exact ⟨⟨n1, n2, fun z => (n4 L (List.mem_append_left _ z)).1 rfl⟩, ⟨n3, fun z => (n4 T (List.mem_append_left _ z)).2.1 rfl⟩, fun z => (n4 S (List.mem_append_left _ z)).2.2 rfl, (List.nodup_append.mp n5).1⟩
theorem LogIn.other {d : Ad} {W1 : Wd} {L T S q : Addr} {as : List Addr} {ts : List Dm} {sn : Dm} {c : Cell} (g : LogIn d W1 L T S as ts sn) (hq : ∀ b ∈ L :: T :: S :: as, b ≠ q) : LogIn d (wset W1 q c) L T S as ts sn :=
  ⟨by rw [ws_ne (hq L (by simp))]; exact g.hL, by rw [ws_ne (hq T (by simp))]; exact g.hT, by rw [ws_ne (hq S (by simp))]; exact g.hS, g.ln, fun i a u h k => by rw [ws_ne (hq a (by simp [List.mem_of_getElem? h]))]; exact g.at' i a u h k, g.nd⟩
theorem LogIn.fr {d : Ad} {W1 : Wd} {L T S q : Addr} {as : List Addr} {ts : List Dm} {sn : Dm} (g : LogIn d W1 L T S as ts sn) (hq : W1 q = none) : ∀ b ∈ L :: T :: S :: as, b ≠ q := fun b hb w => by
  obtain ⟨c, hc⟩ := g.of b hb
  rw [w, hq] at hc; cases hc
theorem log_close2 {d : Ad} {W W1 : Wd} {L T S q : Addr} {as : List Addr} {ts : List Dm} {sn : Dm} {c : Cell} (g : LogIn d W1 L T S as ts sn) (hL : W L = some (logC d ts sn)) (hf : ∀ b ∈ T :: S :: as, W b = none) (ho : ∀ b, b ∉ L :: T :: S :: as → W1 b = W b) (hq : W1 q = none) : Vs (wset W1 q c) (wset W q c) ∧ W q = none := by
  have fr := g.fr hq
  have wq : W q = none := by rw [← ho q (fun z => fr q z rfl)]; exact hq
  have v := log_close (W := wset W q c) (g.other (c := c) fr) (fun b hb => by rw [ws_ne (fr b (List.mem_cons_of_mem _ hb))]; exact hf b hb) (fun b u hb hu => by
    by_cases z : b = q
    · subst z; rw [ws_same] at hu ⊢; exact hu
    · rw [ws_ne z] at hu ⊢; rw [ho b hb]; exact hu)
  rw [ws_id (W := wset W q c) (a := L) (by rw [ws_ne (fr L (by simp))]; exact hL)] at v
  exact ⟨v, wq⟩
theorem as_snoc {as : List Addr} {ts : List Dm} {t : Dm} (h : as.length = (ts ++ [t]).length) : ∃ as' x, as = as' ++ [x] ∧ as'.length = ts.length := by
  rcases List.eq_nil_or_concat as with z | ⟨as', x, z⟩
  · rw [z] at h; simp at h
  · subst z
    exact ⟨as', x, by simp, by simpa using h⟩
theorem log_mat {d : Ad} {W : Wd} {L : Addr} {ts : List Dm} {sn : Dm} {m : Str} (h : W L = some (logC d ts sn)) (n1 : ¬ m = "tiers") (n2 : ¬ m = "seen") : MAt W L d.cLog m := .abs h fun F hl hh => by
  match F, hl, hh with
  | L' :: T :: S :: as, hl, hh =>
    cases hh
    refine ⟨_, by rw [LogX_eq, if_pos rfl], ?_⟩
    rw [List.lookup_cons, beq_eq_false_iff_ne.mpr n1]
    show List.lookup m [_] = none
    rw [List.lookup_cons, beq_eq_false_iff_ne.mpr n2]
    rfl
  | [], hl, _ => simp at hl; omega
  | [_], hl, _ => simp at hl; omega
  | [_, _], hl, _ => simp at hl; omega
theorem mk_Log {d : Ad} {e : Env} {W : Wd} {Q : KD} (q : ∀ x, W x = none → Q (.ptr x) (wset W x (logC d [[]] []))) : WE d.K (tMake d.cLog (lift d.K fun ds W Q => ∃ (L : Addr), ds = [.ptr L] ∧ W L = some (.ins d.cLog []) ∧ Q .non (wset W L (logC d [[]] []))) [] E0 tNil) e W Q :=
  we_make (wa_nil fun x hx => ⟨x, rfl, ws_same, rfl, by rw [ws_ws]; exact q x hx⟩)
def optD : Option Int → D
  | some n => .raw (.int n)
  | none => .raw .non
def bxD (m : Dm) : List D := (bx m).map fun p => .tup [.raw (.int p.1), .raw (.int p.2)]
def p_by_boxes (_ : Ad) : PF := fun ds W Q => ∃ (x : D) (m : Dm), ds = [x] ∧ DctD W x (dmD m) ∧ m.length < 64 ∧ ∀ q, W q = none → Q (.ptr q) (wset W q (.lst (bxD m)))
def p_Log_init (d : Ad) : PF := fun ds W Q => ∃ (L : Addr), ds = [.ptr L] ∧ W L = some (.ins d.cLog []) ∧ Q .non (wset W L (logC d [[]] []))
def p_Log_write (d : Ad) : PF := fun ds W Q => ∃ (L : Addr) (b v : Int) (ts : List Dm) (t sn : Dm), ds = [.ptr L, .int b, .int v] ∧ W L = some (logC d (ts ++ [t]) sn) ∧ t.length < 1000 ∧ Q .non (wset W L (logC d (ts ++ [dput t b v]) sn))
def p_Log_own (d : Ad) : PF := fun ds W Q => ∃ (L : Addr) (b : Int) (ts : List Dm) (sn : Dm), ds = [.ptr L, .int b] ∧ W L = some (logC d ts sn) ∧ Q (optD (ownM ts b)) W
def p_Log_begin (d : Ad) : PF := fun ds W Q => ∃ (L : Addr) (ts : List Dm) (sn : Dm), ds = [.ptr L] ∧ W L = some (logC d ts sn) ∧ ts.length < 1000 ∧ Q .non (wset W L (logC d (ts ++ [[]]) sn))
def p_Log_settle (d : Ad) : PF := fun ds W Q => ∃ (L : Addr) (ts : List Dm) (m top sn : Dm), ds = [.ptr L] ∧ W L = some (logC d (ts ++ [m] ++ [top]) sn) ∧ m.length + top.length < 1000 ∧ Q .non (wset W L (logC d (ts ++ [putAll m top]) sn))
def p_Log_drop (d : Ad) : PF := fun ds W Q => ∃ (L : Addr) (ts : List Dm) (m sn : Dm), ds = [.ptr L] ∧ W L = some (logC d (ts ++ [m]) sn) ∧ Q .non (wset W L (logC d ts sn))
def p_Log_layers (d : Ad) : PF := fun ds W Q => ∃ (L : Addr) (ts : List Dm) (sn : Dm), ds = [.ptr L] ∧ W L = some (logC d ts sn) ∧ Q (.int ts.length) W
def p_Log_see (d : Ad) : PF := fun ds W Q => ∃ (L : Addr) (b v : Int) (ts : List Dm) (sn : Dm), ds = [.ptr L, .int b, .int v] ∧ W L = some (logC d ts sn) ∧ sn.length < 1000 ∧ Q .non (wset W L (logC d ts (dput sn b v)))
def p_Log_saw (d : Ad) : PF := fun ds W Q => ∃ (L : Addr) (ts : List Dm) (sn : Dm), ds = [.ptr L] ∧ W L = some (logC d ts sn) ∧ sn.length < 64 ∧ ∀ q, W q = none → Q (.ptr q) (wset W q (.lst (bxD sn)))
def p_Log_wrote (d : Ad) : PF := fun ds W Q => ∃ (L : Addr) (m : Dm) (ts : List Dm) (sn : Dm), ds = [.ptr L] ∧ W L = some (logC d (m :: ts) sn) ∧ m.length < 64 ∧ ∀ q, W q = none → Q (.ptr q) (wset W q (.lst (bxD m)))
abbrev sp_by_boxes (d : Ad) : Sp := lift d.K (p_by_boxes d)
abbrev sp_Log_init (d : Ad) : Sp := lift d.K (p_Log_init d)
abbrev sp_Log_write (d : Ad) : Sp := lift d.K (p_Log_write d)
abbrev sp_Log_own (d : Ad) : Sp := lift d.K (p_Log_own d)
abbrev sp_Log_begin (d : Ad) : Sp := lift d.K (p_Log_begin d)
abbrev sp_Log_settle (d : Ad) : Sp := lift d.K (p_Log_settle d)
abbrev sp_Log_drop (d : Ad) : Sp := lift d.K (p_Log_drop d)
abbrev sp_Log_layers (d : Ad) : Sp := lift d.K (p_Log_layers d)
abbrev sp_Log_see (d : Ad) : Sp := lift d.K (p_Log_see d)
abbrev sp_Log_saw (d : Ad) : Sp := lift d.K (p_Log_saw d)
abbrev sp_Log_wrote (d : Ad) : Sp := lift d.K (p_Log_wrote d)
abbrev N_by_boxes : List Str := ["found", "box"]
def t_by_boxes (d : Ad) : TS :=
  (tRet (tLc (iList d.K (tCB rSortedD (tCons (tVar 0) tNil))) (gName 1) tYes (tTup (tCons (tVar 1) (tCons (tDGet (tVar 0) (tVar 1)) tNil))) [1]))
abbrev N_Log_init : List Str := ["self"]
def t_Log_init (d : Ad) : TS :=
  (tSeq (sFld d.K (tVar 0) (tLst (tCons tDNewK tNil)) "tiers")
  (sFld d.K (tVar 0) tDNewK "seen"))
abbrev N_Log_write : List Str := ["self", "box", "number"]
def t_Log_write (d : Ad) : TS :=
  (sDPut (tOp (rIxL d.K) (tFld d.K (tVar 0) "tiers") (aNeg (tC (.int 1)))) (tVar 1) (tVar 2))
abbrev N_Log_own : List Str := ["self", "box", "tier"]
def t_Log_own (d : Ad) : TS :=
  (tSeq (tFor (iRev d.K (tCons (tFld d.K (tVar 0) "tiers") tNil)) (gName 2) (tIfS (tB (tDIn (tVar 1) (tVar 2))) (tRet (tDGet (tVar 2) (tVar 1))) tNext))
  (tRet (tC .non)))
abbrev N_Log_begin : List Str := ["self"]
def t_Log_begin (d : Ad) : TS :=
  (tDrop (tBM d.K "list" rAppend (tFld d.K (tVar 0) "tiers") (tCons tDNewK tNil)))
abbrev N_Log_settle : List Str := ["self", "top", "box", "number"]
def t_Log_settle (d : Ad) : TS :=
  (tSeq (tAsg (tBM0 d.K "list" rPop (tFld d.K (tVar 0) "tiers")) (gName 1))
  (tLock (tFor (iItems (tVar 1)) (gTup d.K 2 (gCons (gName 2) (gCons (gName 3) gNil))) (sDPut (tOp (rIxL d.K) (tFld d.K (tVar 0) "tiers") (aNeg (tC (.int 1)))) (tVar 2) (tVar 3)))))
abbrev N_Log_drop : List Str := ["self"]
def t_Log_drop (d : Ad) : TS :=
  (tDrop (tBM0 d.K "list" rPop (tFld d.K (tVar 0) "tiers")))
abbrev N_Log_layers : List Str := ["self"]
def t_Log_layers (d : Ad) : TS :=
  (tRet (tCB (Evl.rLenS d.K) (tCons (tFld d.K (tVar 0) "tiers") tNil)))
abbrev N_Log_saw : List Str := ["self"]
def t_Log_saw (d : Ad) : TS :=
  (tRet (tCall (sp_by_boxes d) [] E0 (tCons (tFld d.K (tVar 0) "seen") tNil)))
abbrev N_Log_wrote : List Str := ["self"]
def t_Log_wrote (d : Ad) : TS :=
  (tRet (tCall (sp_by_boxes d) [] E0 (tCons (tOp (rIxL d.K) (tFld d.K (tVar 0) "tiers") (tC (.int 0))) tNil)))
abbrev N_Log_see : List Str := ["self", "box", "number"]
def t_Log_see (d : Ad) : TS :=
  (sDPut (tFld d.K (tVar 0) "seen") (tVar 1) (tVar 2))
local macro_rules | `(tactic| walk_at "callm") => `(tactic| fail)
section
variable {d : Ad} {vs : List V} {H : Hp} {Q : VK} {E : XK}
theorem pure_by_boxes (h : sp_by_boxes d vs H Q E) : t_by_boxes d { nx := fun _ H' => Q .non H', rt := Q } (start N_by_boxes vs) H := by
  refine lift_pure h fun ds W Q hp => ?_
  obtain ⟨x, m, rfl, hx, hl, k⟩ := hp
  show WS d.K (t_by_boxes d) [some x, none] W _
  unfold t_by_boxes
  walk_at "mgo"
  refine d_sortD hx hl ?_
  walk_at "dat"
  have sl : (sortK m).length = m.length := by rw [(sortK_perm m).length_eq]; exact List.length_map _
  have e1 : ∀ {i : Nat} {y : D}, (itS (.lst ((sortK m).map D.int)) ((sortK m).map D.int)).item i = some y → ∃ b, (sortK m)[i]? = some b ∧ y = .raw (.int b) := fun hy => by
    obtain ⟨b, h1, h2⟩ := Option.map_eq_some_iff.mp ((List.getElem?_map ..).symm.trans hy)
    exact ⟨b, h1, h2.symm⟩
  refine ⟨by show ((sortK m).map D.int).length ≤ 1000000; rw [List.length_map, sl]; omega, bxD m, by show (bxD m).length = ((sortK m).map D.int).length; unfold bxD; rw [List.length_map, bx_len, List.length_map, sl], ?_, fun p hp => fz_id (ret_own (Sub.refl _) (k p hp))⟩
  intro p i y L hp hi hy
  obtain ⟨b, h1, rfl⟩ := e1 hy
  have hb : b ∈ keysM m := (sortK_perm m).mem_iff.mp (List.mem_of_getElem? h1)
  obtain ⟨n, hn⟩ := dget_in hb
  have hx2 : DctD (wset W p (.lst L)) x (dmD m) := by
    cases hx with
    | own h => exact .own (ws_lk (ne_w2 hp h) h)
    | lock h => exact .lock (ws_lk (ne_w2 hp h) h)
  walk_at "mgo"
  refine d_dgetI hx2 (by rw [valD_dm, hn]; rfl) ?_
  walk_at "mgo"
  refine fz_id (sub_q (Sub.refl _) ⟨?_, rfl⟩)
  unfold bxD bx
  rw [List.getElem?_map, List.getElem?_map, h1, Option.map_some, Option.map_some, hn]
  rfl
theorem pure_Log_init (T : TLog d) (h : sp_Log_init d vs H Q E) : t_Log_init d { nx := fun _ H' => Q .non H', rt := Q } (start N_Log_init vs) H := by
  refine lift_vs h fun ds W Q hp => ?_
  obtain ⟨L, rfl, hL, k⟩ := hp
  have c := T.cl
  have n1 := T.n1
  have n2 := T.n2
  show WS d.K (t_Log_init d) [some (.raw (.ref L))] W _
  unfold t_Log_init
  walk_at "mgo"
  intro x hx
  walk_at "mgo"
  intro Tl hT
  refine fz_id ?_
  walk_at "mgo"
  intro S hS
  walk_at "mgo"
  have hT' := ws_non hT
  have hS' := ws_non (ws_non (ws_non hS))
  have z1 : L ≠ x := ne_w hL hx
  have z2 : L ≠ Tl := ne_w hL hT'
  have z3 : L ≠ S := ne_w hL hS'
  have z4 : x ≠ Tl := ne_w ws_same hT
  have z5 : Tl ≠ S := ne_w ws_same (ws_non hS)
  have z6 : x ≠ S := ne_w ws_same (ws_non (ws_non hS))
  refine sub_vs (log_close (T := Tl) (S := S) (as := [x]) ⟨?_, ?_, ?_, rfl, fun i a t h1 h2 => ?_, ?_⟩ (fun b hb => ?_) fun b c hb hc => ?_) k
  · exact ws_same
  · rw [ws_ne z2.symm, ws_ne z5, ws_ne z2.symm, ws_same]; rfl
  · rw [ws_ne z3.symm, ws_same]; rfl
  · cases i with
    | zero =>
      cases h1; cases h2
      rw [ws_ne z1.symm, ws_ne z6, ws_ne z1.symm, ws_ne z4, ws_same]; rfl
    | succ i => simp at h1
  · simp [z2, z3, z1, z5, z4.symm, z6.symm]
  · simp only [List.mem_cons, List.not_mem_nil, or_false] at hb
    rcases hb with rfl | rfl | rfl
    · exact hT'
    · exact hS'
    · exact hx
  · simp only [List.mem_cons, List.not_mem_nil, or_false, not_or] at hb
    rw [ws_ne hb.1, ws_ne hb.2.2.1, ws_ne hb.1, ws_ne hb.2.1, ws_ne hb.2.2.2]
    exact hc
theorem pure_Log_write (T : TLog d) (h : sp_Log_write d vs H Q E) : t_Log_write d { nx := fun _ H' => Q .non H', rt := Q } (start N_Log_write vs) H := by
  refine lift_vs h fun ds W Q hp => ?_
  obtain ⟨L, b, v, ts, t, sn, rfl, hL, hl, k⟩ := hp
  have c := T.cl
  have n1 := T.n1
  have n2 := T.n2
  show WS d.K (t_Log_write d) [some (.raw (.ref L)), some (.raw (.int b)), some (.raw (.int v))] W _
  unfold t_Log_write
  refine ws_openLog hL fun W1 Tl S as g hf ho => ?_
  obtain ⟨as', x, rfl, l'⟩ := as_snoc g.ln
  have gL := g.hL
  have gT := g.hT
  have gx : W1 x = some (.dct (dmD t)) := g.at' as'.length x t (by simp) (by rw [l']; simp)
  rw [List.map_append] at gT
  walk_at "mgo"
  refine d_ixL (SeqD.own gT) at_last ?_
  walk_at "mgo"
  refine d_dputI gx (by rw [dmD_len, sizeLine_eq]; omega) ?_
  rw [putKD_dm]
  refine sub_vs (log_close g.setTop hf fun b c hb hc => ?_) k
  rw [ws_ne (fun w => hb (by simp [w])), ho b hb]
  exact hc
theorem pure_Log_begin (T : TLog d) (h : sp_Log_begin d vs H Q E) : t_Log_begin d { nx := fun _ H' => Q .non H', rt := Q } (start N_Log_begin vs) H := by
  refine lift_vs h fun ds W Q hp => ?_
  obtain ⟨L, ts, sn, rfl, hL, hl, k⟩ := hp
  have c := T.cl
  have n1 := T.n1
  show WS d.K (t_Log_begin d) [some (.raw (.ref L))] W _
  unfold t_Log_begin
  refine ws_openLog hL fun W1 Tl S as g hf ho => ?_
  have gL := g.hL
  have gT := g.hT
  walk_at "mgo"
  intro y hy
  walk_at "mgo"
  refine d_app (ws_lk (ne_w gT hy) gT) (by rw [List.length_map, g.ln, sizeLine_eq]; omega) ?_
  walk_at "mgo"
  have hy' : ∀ b ∈ L :: Tl :: S :: as, b ≠ y := fun b hb w => by
    obtain ⟨c, hc⟩ := g.of b hb
    rw [w, hy] at hc; cases hc
  refine sub_vs (log_close (g.push hy) (fun b hb => ?_) fun b c hb hc => ?_) k
  · simp only [List.mem_cons, List.mem_append, List.not_mem_nil, or_false] at hb
    rcases hb with rfl | rfl | hb | rfl
    · exact hf _ (by simp)
    · exact hf _ (by simp)
    · exact hf _ (by simp [hb])
    · rw [← ho b (fun hm => hy' b hm rfl)]; exact hy
  · have hb' : b ∉ L :: Tl :: S :: as := fun z => hb (by
      simp only [List.mem_cons, List.mem_append] at z ⊢
      rcases z with z | z | z | z
      · exact .inl z
      · exact .inr (.inl z)
      · exact .inr (.inr (.inl z))
      · exact .inr (.inr (.inr (.inl z))))
    rw [ws_ne (fun w => hb' (by simp [w])), ws_ne (fun w => hb (by simp [w])), ho b hb']
    exact hc
theorem pure_Log_drop (T : TLog d) (h : sp_Log_drop d vs H Q E) : t_Log_drop d { nx := fun _ H' => Q .non H', rt := Q } (start N_Log_drop vs) H := by
  refine lift_vs h fun ds W Q hp => ?_
  obtain ⟨L, ts, m, sn, rfl, hL, k⟩ := hp
  have c := T.cl
  have n1 := T.n1
  show WS d.K (t_Log_drop d) [some (.raw (.ref L))] W _
  unfold t_Log_drop
  refine ws_openLog hL fun W1 Tl S as g hf ho => ?_
  obtain ⟨as', x, rfl, l'⟩ := as_snoc g.ln
  have gL := g.hL
  have gT := g.hT
  walk_at "mgo"
  refine d_pop (ds := as'.map D.ptr) (y := .ptr x) (by rw [gT, List.map_append]; rfl) ?_
  walk_at "mgo"
  refine sub_vs (log_close g.pop (fun b hb => hf b ?_) fun b c hb hc => ?_) k
  · simp only [List.mem_cons, List.mem_append] at hb ⊢
    rcases hb with rfl | rfl | hb
    · exact .inl rfl
    · exact .inr (.inl rfl)
    · exact .inr (.inr (.inl hb))
  · by_cases q : b = x
    · subst q
      rw [hf b (by simp)] at hc; cases hc
    · rw [ws_ne (fun w => hb (by simp [w])), ho b (fun z => hb (by simp [q] at z ⊢; exact z))]
      exact hc
theorem pure_Log_see (T : TLog d) (h : sp_Log_see d vs H Q E) : t_Log_see d { nx := fun _ H' => Q .non H', rt := Q } (start N_Log_see vs) H := by
  refine lift_vs h fun ds W Q hp => ?_
  obtain ⟨L, b, v, ts, sn, rfl, hL, hl, k⟩ := hp
  have c := T.cl
  have n1 := T.n1
  have n2 := T.n2
  show WS d.K (t_Log_see d) [some (.raw (.ref L)), some (.raw (.int b)), some (.raw (.int v))] W _
  unfold t_Log_see
  refine ws_openLog hL fun W1 Tl S as g hf ho => ?_
  have gL := g.hL
  have gS := g.hS
  walk_at "mgo"
  refine d_dputI gS (by rw [dmD_len, sizeLine_eq]; omega) ?_
  rw [putKD_dm]
  refine sub_vs (log_close g.setSeen hf fun b c hb hc => ?_) k
  rw [ws_ne (fun w => hb (by simp [w])), ho b hb]
  exact hc
theorem pure_Log_saw (T : TLog d) (h : sp_Log_saw d vs H Q E) : t_Log_saw d { nx := fun _ H' => Q .non H', rt := Q } (start N_Log_saw vs) H := by
  refine lift_vs h fun ds W Q hp => ?_
  obtain ⟨L, ts, sn, rfl, hL, hl, k⟩ := hp
  have c := T.cl
  have n2 := T.n2
  show WS d.K (t_Log_saw d) [some (.raw (.ref L))] W _
  unfold t_Log_saw
  refine ws_openLog hL fun W1 Tl S as g hf ho => ?_
  have gL := g.hL
  have gS := g.hS
  walk_at "mgo"
  refine ⟨_, sn, rfl, .own gS, hl, fun q hq => ?_⟩
  obtain ⟨v, wq⟩ := log_close2 (c := .lst (bxD sn)) g hL hf ho hq
  exact ret_vs v (k q wq)
theorem pure_Log_wrote (T : TLog d) (h : sp_Log_wrote d vs H Q E) : t_Log_wrote d { nx := fun _ H' => Q .non H', rt := Q } (start N_Log_wrote vs) H := by
  refine lift_vs h fun ds W Q hp => ?_
  obtain ⟨L, m, ts, sn, rfl, hL, hl, k⟩ := hp
  have c := T.cl
  have n1 := T.n1
  show WS d.K (t_Log_wrote d) [some (.raw (.ref L))] W _
  unfold t_Log_wrote
  refine ws_openLog hL fun W1 Tl S as g hf ho => ?_
  have gL := g.hL
  have gT := g.hT
  obtain ⟨x, as', rfl⟩ : ∃ x as', as = x :: as' := by
    cases as with
    | nil => have := g.ln; simp at this
    | cons x as' => exact ⟨x, as', rfl⟩
  have gx : W1 x = some (.dct (dmD m)) := g.at' 0 x m rfl rfl
  walk_at "mgo"
  refine d_ixL (SeqD.own gT) at0 ?_
  walk_at "mgo"
  refine ⟨_, m, rfl, .own gx, hl, fun q hq => ?_⟩
  obtain ⟨v, wq⟩ := log_close2 (c := .lst (bxD m)) g hL hf ho hq
  exact ret_vs v (k q wq)
theorem own_step {ts : List Dm} {b : Int} {i : Nat} {m : Dm} (h : (ts.reverse.take i).findSome? (fun m => dget m b) = none) (hi : ts.reverse[i]? = some m) (hb : dget m b = none) : (ts.reverse.take (i + 1)).findSome? (fun m => dget m b) = none := by
  rw [List.take_succ, hi, List.findSome?_append, h]
  simp [hb]
theorem own_hit {ts : List Dm} {b n : Int} {i : Nat} {m : Dm} (h : (ts.reverse.take i).findSome? (fun m => dget m b) = none) (hi : ts.reverse[i]? = some m) (hb : dget m b = some n) : ownM ts b = some n := by
  unfold ownM
  have e : ts.reverse = ts.reverse.take i ++ (m :: ts.reverse.drop (i + 1)) := by
    have := List.getElem?_eq_some_iff.mp hi
    rw [← this.2, ← List.drop_eq_getElem_cons this.1, List.take_append_drop]
  rw [e, List.findSome?_append, h, List.findSome?_cons, hb]
  rfl
theorem pure_Log_own (T : TLog d) (h : sp_Log_own d vs H Q E) : t_Log_own d { nx := fun _ H' => Q .non H', rt := Q } (start N_Log_own vs) H := by
  refine lift_vs h fun ds W Q hp => ?_
  obtain ⟨L, b, ts, sn, rfl, hL, k⟩ := hp
  have c := T.cl
  have n1 := T.n1
  show WS d.K (t_Log_own d) [some (.raw (.ref L)), some (.raw (.int b)), none] W _
  unfold t_Log_own
  refine ws_openLog hL fun W1 Tl S as g hf ho => ?_
  have gL := g.hL
  have gT := g.hT
  have v : Vs W1 W := by
    have := log_close (W := W) g hf fun b c hb hc => by rw [ho b hb]; exact hc
    rwa [ws_id hL] at this
  walk_at "mgo"
  refine ⟨fun i e W' => e = [some (.raw (.ref L)), some (.raw (.int b)), none] ∧ W' = W1 ∧ (ts.reverse.take i).findSome? (fun m => dget m b) = none, nx_id ⟨rfl, rfl, by simp⟩, ?_, ?_, ?_⟩
  · rintro i e' W' hi ⟨rfl, rfl, _⟩
    exact .own gT
  · rintro i u e' W' hi hu ⟨rfl, rfl, hn⟩
    have hi : i < (as.map D.ptr).length := hi
    rw [List.length_map] at hi
    have hu : (as.map D.ptr)[(as.map D.ptr).length - 1 - i]? = some u := hu
    rw [List.length_map, List.getElem?_map] at hu
    obtain ⟨x, hx, rfl⟩ := Option.map_eq_some_iff.mp hu
    have ln := g.ln
    have ht := List.getElem?_eq_getElem (l := ts) (i := as.length - 1 - i) (by omega)
    have gx := g.at' _ _ _ hx ht
    have hr : ts.reverse[i]? = some (ts[as.length - 1 - i]'(by omega)) := by
      rw [List.getElem?_reverse (by omega), ← ht, ln]
    generalize ts[as.length - 1 - i]'(by omega) = m at gx hr
    walk_at "mgo"
    rw [valD_dm]
    cases hb : dget m b with
    | none =>
      walk_at "mgo"
      exact nx_le (by walk_at "le") ⟨rfl, rfl, own_step hn hr hb⟩
    | some n =>
      refine w_tt rfl ?_
      walk_at "mgo"
      refine d_dgetI (.own gx) (by rw [valD_dm, hb]; rfl) ?_
      rw [own_hit hn hr hb] at k
      exact ret_vs v k
  · rintro e' W' ⟨rfl, rfl, hn⟩
    walk_at "mgo"
    have : (itV (.raw (.ref Tl)) (as.map D.ptr)).n = ts.reverse.length := by show (as.map D.ptr).length = _; rw [List.length_map, g.ln, List.length_reverse]
    rw [this, List.take_length] at hn
    have e : ownM ts b = none := hn
    rw [e] at k
    exact ret_vs v k
theorem putAll_take {m top : Dm} {i : Nat} {q : Int × Int} (h : top[i]? = some q) : putAll m (top.take (i + 1)) = dput (putAll m (top.take i)) q.1 q.2 := by
  unfold putAll
  rw [List.take_succ, h, List.foldl_append]
  rfl
theorem pure_Log_settle (T : TLog d) (h : sp_Log_settle d vs H Q E) : t_Log_settle d { nx := fun _ H' => Q .non H', rt := Q } (start N_Log_settle vs) H := by
  refine lift_vs h fun ds W Q hp => ?_
  obtain ⟨L, ts, m, top, sn, rfl, hL, hl, k⟩ := hp
  have c := T.cl
  have n1 := T.n1
  show WS d.K (t_Log_settle d) [some (.raw (.ref L)), none, none, none] W _
  unfold t_Log_settle
  refine ws_openLog hL fun W1 Tl S as g hf ho => ?_
  obtain ⟨as1, x, rfl, l1⟩ := as_snoc g.ln
  obtain ⟨as2, y, rfl, l2⟩ := as_snoc l1
  have gL := g.hL
  have gT := g.hT
  have gx : W1 x = some (.dct (dmD top)) := g.at' (as2 ++ [y]).length x top (by simp) (by rw [l1]; simp)
  walk_at "mgo"
  refine d_pop (ds := (as2 ++ [y]).map D.ptr) (y := .ptr x) (by rw [gT, List.map_append]; rfl) ?_
  have g2 := g.pop
  have nx : x ≠ Tl := (g.nds.2.2.2.1 x (by simp)).2.1
  walk_at "mgo"
  generalize hW2 : wset W1 Tl (.lst ((as2 ++ [y]).map D.ptr)) = W2 at g2 ⊢
  have gx2 : W2 x = some (.dct (dmD top)) := by rw [← hW2, ws_ne nx]; exact gx
  have xo : ∀ b ∈ L :: Tl :: S :: (as2 ++ [y]), b ≠ x := by
    have n4 := g.nds.2.2.2.1 x (by simp)
    intro b hb
    simp only [List.mem_cons] at hb
    rcases hb with rfl | rfl | rfl | hb
    · exact n4.1.symm
    · exact n4.2.1.symm
    · exact n4.2.2.symm
    · exact fun w => (List.nodup_append.mp g.nds.2.2.2.2).2.2 b hb x (by simp) w
  have gL2 := g2.hL
  refine ws_lock gx2 fun o u => ?_
  walk_at "mgo"
  refine ⟨fun i e W' => e = [some (.raw (.ref L)), some (.ptr x), none, none] ∧ W' = wset (wset W2 x (.lock o u (dmD top))) y (.dct (dmD (putAll m (top.take i)))), nx_id ⟨rfl, ?_⟩, ?_, ?_, ?_⟩
  · have gy : W2 y = some (.dct (dmD m)) := g2.at' as2.length y m (by simp) (by rw [l2]; simp)
    rw [List.take_zero]
    show _ = wset _ y (.dct (dmD m))
    exact (ws_id (W := wset W2 x (.lock o u (dmD top))) (a := y) (by rw [ws_ne (xo y (by simp))]; exact gy)).symm
  · rintro i e' W' hi ⟨rfl, rfl⟩
    show wset _ y _ x = some _
    rw [ws_ne (xo y (by simp)).symm]
    exact ws_same
  · rintro i v e' W' hi hv ⟨rfl, rfl⟩
    have hv : (dmD top)[i]?.map (fun kv => D.tup [kD kv.1, kv.2]) = some v := hv
    unfold dmD at hv
    rw [List.getElem?_map] at hv
    obtain ⟨kv, h3, rfl⟩ := Option.map_eq_some_iff.mp hv
    obtain ⟨q, h4, rfl⟩ := Option.map_eq_some_iff.mp h3
    have hi' := (List.getElem?_eq_some_iff.mp h4).1
    have pl := putAll_len (top.take i) m
    rw [List.length_take] at pl
    have hT2 : wset (wset W2 x (.lock o u (dmD top))) y (.dct (dmD (putAll m (top.take i)))) Tl = some (.lst (as2.map D.ptr ++ [.ptr y])) := by
      rw [ws_ne (g2.nds.2.2.2.1 y (by simp)).2.1.symm, ws_ne (xo Tl (by simp)), g2.hT, List.map_append]; rfl
    have hL2 : wset (wset W2 x (.lock o u (dmD top))) y (.dct (dmD (putAll m (top.take i)))) L = some (.ins d.cLog [("tiers", .raw (.ref Tl)), ("seen", .raw (.ref S))]) := by
      rw [ws_ne (g2.nds.2.2.2.1 y (by simp)).1.symm, ws_ne (xo L (by simp))]; exact gL2
    refine wg_tupL ⟨rfl, ?_⟩
    walk_at "mgo"
    refine d_ixL (SeqD.own hT2) at_last ?_
    walk_at "mgo"
    refine d_dputI (k := q.1) ws_same (by rw [dmD_len, sizeLine_eq]; omega) ?_
    rw [putKD_dm, ws_ws]
    exact nx_le (by walk_at "le") ⟨rfl, by rw [putAll_take h4]⟩
  · rintro e' W' ⟨rfl, rfl⟩
    have e0 : (itI x o u (dmD top)).n = top.length := dmD_len top
    rw [e0, List.take_length]
    have nyx := xo y (by simp)
    refine ⟨by rw [ws_ne nyx.symm]; exact ws_same, ?_⟩
    rw [ws_comm nyx, ws_ws]
    have e1 : wset (wset W2 x (.dct (dmD top))) y (.dct (dmD (putAll m top))) = wset W2 y (.dct (dmD (putAll m top))) := by
      rw [ws_id gx2]
    have g3 := (g2.setTop (t' := putAll m top))
    refine sub_vs (log_close (W1 := wset (wset W2 x (.dct (dmD top))) y (.dct (dmD (putAll m top)))) (e1 ▸ g3) (fun b hb => hf b ?_) fun b c hb hc => ?_) k
    · simp only [List.mem_cons, List.mem_append] at hb ⊢
      rcases hb with rfl | rfl | hb
      · exact .inl rfl
      · exact .inr (.inl rfl)
      · exact .inr (.inr (.inl hb))
    · by_cases z : b = x
      · subst z
        rw [hf b (by simp)] at hc; cases hc
      · rw [e1, ws_ne (fun w => hb (by simp [w])), ← hW2, ws_ne (fun w => hb (by simp [w])), ho b (fun w => hb (by simp [z] at w ⊢; exact w))]
        exact hc
end
end
set_option Elab.async false
set_option linter.all false
set_option maxRecDepth 100000
set_option maxHeartbeats 400000
set_option autoImplicit false
local macro_rules | `(tactic| walk_at "sq") => `(tactic| first | assumption | ((with_reducible refine' SqL.of ?h); (case h => walk_at "hk")) | ((with_reducible refine' ex_sq ?h1 ?h2); (case h1 => assumption); (case h2 => walk_at "sq")))
local macro_rules | `(tactic| walk_at "st") => `(tactic| first | assumption | ((with_reducible refine' SqT.of ?h); (case h => walk_at "hk")) | ((with_reducible refine' ex_st ?h1 ?h2); (case h1 => assumption); (case h2 => walk_at "st")))
local macro_rules | `(tactic| walk_at "mat") => `(tactic| first | ((with_reducible refine' MAt.ins ?h ?l); (case h => walk_at "wk"); (case l => rfl)) | ((with_reducible refine' log_mat ?h ?l ?l2); (case h => walk_at "wk"); (case l => decide +kernel); (case l2 => decide +kernel)))
section
open PySem L2
local macro_rules | `(tactic| walk_at "ne") => `(tactic| first | assumption | exact Ne.symm (by assumption) | ((refine' ne2 ?h1 ?h2); (case h1 => assumption); (case h2 => walk_at "hk")) | ((refine' ne2s ?h1 ?h2); (case h1 => assumption); (case h2 => walk_at "hk")) | exact ne_head (by assumption) | exact ne_of (by assumption) (by assumption) (by intro z; cases z))
local macro_rules | `(tactic| walk_at "hk") => `(tactic| first | assumption | with_reducible exact upd_same | ((with_reducible refine' up_ne ?h1 ?h2); (case h1 => walk_at "ne"); (case h2 => walk_at "hk")) | ((with_reducible refine' ex_at ?h1 ?h2); (case h1 => assumption); (case h2 => walk_at "hk")))
local macro_rules | `(tactic| walk_at "sc") => `(tactic| first | assumption | decide | omega | (unfold CMul; omega) | (unfold CDiv; omega) | (unfold CPow; decide) | (unfold CDiv; decide))
local macro_rules | `(tactic| walk_at "go") => `(tactic| (repeat (first | walk_at "step" | walk_at "callx")))
local macro_rules | `(tactic| walk_at "len") => `(tactic| first
  | (obtain ⟨rfl, _⟩ := h; rfl) | (obtain ⟨_, rfl, _⟩ := h; rfl) | (obtain ⟨_, _, rfl, _⟩ := h; rfl) | (obtain ⟨_, _, _, rfl, _⟩ := h; rfl) | (obtain ⟨_, _, _, _, rfl, _⟩ := h; rfl)
  | (obtain ⟨_, _, _, _, _, rfl, _⟩ := h; rfl) | (obtain ⟨_, _, _, _, _, _, rfl, _⟩ := h; rfl) | (obtain ⟨_, _, _, _, _, _, _, rfl, _⟩ := h; rfl) | (obtain ⟨_, _, _, _, _, _, _, _, rfl, _⟩ := h; rfl)
  | (obtain ⟨_, _, _, _, _, _, _, _, _, rfl, _⟩ := h; rfl) | (obtain ⟨_, _, _, _, _, _, _, _, _, _, rfl, _⟩ := h; rfl))
local macro_rules | `(tactic| walk_at "sd") => `(tactic| first | with_reducible assumption | with_reducible exact SeqD.lst _ | with_reducible exact SeqD.scr _ | ((with_reducible refine' SeqD.own ?h); (case h => walk_at "wk")) | ((with_reducible refine' SeqD.er ?m ?h); (case h => with_reducible assumption); (case m => walk_at "sub")))
local macro_rules | `(tactic| walk_at "cd") => `(tactic| first | with_reducible assumption | with_reducible exact CatD.lst _ | ((with_reducible refine' CatD.own ?h); (case h => walk_at "wk")))
local macro_rules | `(tactic| walk_at "le") => `(tactic| repeat (first | exact EnvLe.nil | exact EnvLe.refl _ | with_reducible refine' EnvLe.cons (.inl rfl) ?_ | with_reducible refine' EnvLe.cons (.inr rfl) ?_))
def ix (s : Str) : Nat := s.cps.getD 0 0 - 97
theorem ix_lt (k : Nat) : ix (lt1 (97 + k)) = k := by unfold ix lt1; simp
theorem ix_sl {s : Str} (h : Sl s) : ix s < 8 := by
  obtain ⟨k, hk, rfl⟩ := h
  rw [ix_lt]; exact hk
abbrev WIDE : Int := 18446744073709551616
def rkn (w : Str) (a b : Int) : Int :=
  if w = "plus" then (a + b) % WIDE else if w = "minus" then (a - b) % WIDE else if w = "times" then a * b % WIDE else if w = "less" then (if a < b then 1 else 0) else if a = b then 1 else 0
structure AS where
  ps : List Int
  ts : List Dm
  sn : Dm
inductive AE | waits | fell (n : Str) (v : Int)
def lk (σ : AS) (s : Str) : Int := σ.ps.getD (ix s) 0
def AS.give (σ : AS) (s : Str) (n : Int) : AS := { σ with ps := σ.ps.set (ix s) n }
def bxAt (bs : List Int) (σ : AS) (s : Str) : Int := lk σ s % (bs.length : Nat)
def topPut (ts : List Dm) (b n : Int) : List Dm := ts.dropLast ++ [dput (ts.getLastD []) b n]
def settleT (ts : List Dm) : List Dm := ts.dropLast.dropLast ++ [putAll (ts.dropLast.getLastD []) (ts.getLastD [])]
def takeS (bs : List Int) (σ : AS) (s p : Str) : AS :=
  let b := bxAt bs σ p
  match ownM σ.ts b with
  | some v => σ.give s v
  | none => { σ with sn := dput σ.sn b (bs.getD b.toNat 0) }.give s (bs.getD b.toNat 0)
def plainS (bs : List Int) : Pt → AS → AS
  | .let_ s n, σ => σ.give s n
  | .rk w s o t, σ => σ.give s (rkn w (lk σ o) (lk σ t))
  | .take s p, σ => takeS bs σ s p
  | .put p s, σ => { σ with ts := topPut σ.ts (bxAt bs σ p) (lk σ s) }
  | _, σ => σ
mutual
def doP (bs : List Int) : Pt → AS → Option AE × AS
  | .iff s ps os, σ => if lk σ s ≠ 0 then doPs bs ps σ else doPs bs os σ
  | .eith ps os, σ =>
    match doPs bs ps { σ with ts := σ.ts ++ [[]] } with
    | (none, τ) => (none, { τ with ts := settleT τ.ts })
    | (some .waits, τ) => doPs bs os ⟨σ.ps, τ.ts.dropLast, τ.sn⟩
    | (some (.fell n v), τ) => (some (.fell n v), { τ with ts := τ.ts.dropLast })
  | .tryy ps n s os, σ =>
    match doPs bs ps { σ with ts := σ.ts ++ [[]] } with
    | (none, τ) => (none, { τ with ts := settleT τ.ts })
    | (some .waits, τ) => (some .waits, { τ with ts := τ.ts.dropLast })
    | (some (.fell m v), τ) => if m = n then doPs bs os (AS.give ⟨σ.ps, τ.ts.dropLast, τ.sn⟩ s v) else (some (.fell m v), { τ with ts := τ.ts.dropLast })
  | .throw n s, σ => (some (.fell n (lk σ s)), σ)
  | .wait, σ => (some .waits, σ)
  | .let_ s n, σ => (none, plainS bs (.let_ s n) σ)
  | .rk w s o t, σ => (none, plainS bs (.rk w s o t) σ)
  | .take s p, σ => (none, plainS bs (.take s p) σ)
  | .put p s, σ => (none, plainS bs (.put p s) σ)
def doPs (bs : List Int) : List Pt → AS → Option AE × AS
  | [], σ => (none, σ)
  | p :: r, σ => match doP bs p σ with
    | (none, τ) => doPs bs r τ
    | (some e, τ) => (some e, τ)
end
def Nm (v : Int) : Prop := 0 ≤ v ∧ v < WIDE
theorem nm_mod (v : Int) : Nm (v % WIDE) := ⟨Int.emod_nonneg _ (by decide), Int.emod_lt_of_pos _ (by decide)⟩
theorem nm_bit (p : Prop) [Decidable p] : Nm (if p then 1 else 0) := by unfold Nm WIDE; split <;> omega
theorem nm_rkn (w : Str) (a b : Int) : Nm (rkn w a b) := by
  unfold rkn
  split
  · exact nm_mod _
  · split
    · exact nm_mod _
    · split
      · exact nm_mod _
      · split
        · exact nm_bit _
        · exact nm_bit _
structure DmOk (m : Dm) : Prop where
  k : KeysOk m
  v : ∀ p ∈ m, Nm p.2
theorem DmOk.nil : DmOk [] := ⟨.nil, fun p hp => by cases hp⟩
theorem DmOk.put {m : Dm} (h : DmOk m) {b v : Int} (hv : Nm v) (hb : 0 ≤ b ∧ b < 16) : DmOk (dput m b v) := ⟨h.k.put v hb, fun p hp => by
  unfold dput at hp
  split at hp
  · obtain ⟨q, hq, e⟩ := List.mem_map.mp hp
    split at e
    · subst e; exact hv
    · subst e; exact h.v _ hq
  · rcases List.mem_append.mp hp with hp | hp
    · exact h.v _ hp
    · rw [List.mem_singleton.mp hp]; exact hv⟩
theorem DmOk.all : ∀ (top m : Dm), DmOk m → DmOk top → DmOk (putAll m top)
  | [], m, h, _ => h
  | p :: r, m, h, ht => by
    have h1 := ht.k.le p.1 (by simp [keysM])
    have h2 : DmOk r := ⟨⟨(List.nodup_cons.mp ht.k.nd).2, fun k hk => ht.k.le k (List.mem_cons_of_mem _ hk)⟩, fun q hq => ht.v q (List.mem_cons_of_mem _ hq)⟩
    exact DmOk.all r (dput m p.1 p.2) (h.put (ht.v p (by simp)) h1) h2
theorem DmOk.get {m : Dm} (h : DmOk m) {b n : Int} (e : dget m b = some n) : Nm n := by
  unfold dget at e
  obtain ⟨p, hp, rfl⟩ := Option.map_eq_some_iff.mp e
  exact h.v _ (List.mem_of_find?_eq_some hp)
theorem own_nm {ts : List Dm} (h : ∀ t ∈ ts, DmOk t) {b n : Int} (e : ownM ts b = some n) : Nm n := by
  unfold ownM at e
  obtain ⟨m, hm, hd⟩ := List.exists_of_findSome?_eq_some e
  exact (h m (by simpa using hm)).get hd
structure OkS (σ : AS) (n : Nat) : Prop where
  ps : σ.ps.length = 8
  nb : ∀ v ∈ σ.ps, Nm v
  ln : σ.ts.length = n
  ts : ∀ t ∈ σ.ts, DmOk t
  sn : DmOk σ.sn
structure OkB (bs : List Int) : Prop where
  l1 : 1 ≤ bs.length
  l2 : bs.length ≤ 16
  nb : ∀ v ∈ bs, Nm v
theorem OkB.at {bs : List Int} (h : OkB bs) (i : Int) : 0 ≤ i % (bs.length : Nat) ∧ i % (bs.length : Nat) < (bs.length : Nat) ∧ i % (bs.length : Nat) < 16 := by
  have h1 := h.l1
  have h2 := h.l2
  have h3 := Int.emod_nonneg i (b := ((bs.length : Nat) : Int)) (by omega)
  have h4 := Int.emod_lt_of_pos i (b := ((bs.length : Nat) : Int)) (by omega)
  exact ⟨h3, h4, by omega⟩
theorem getD_mem {l : List Int} {i : Nat} (h : i < l.length) : l.getD i 0 ∈ l := by
  rw [List.getD_eq_getElem?_getD, List.getElem?_eq_getElem h]
  exact List.getElem_mem h
theorem OkS.lkN {σ : AS} {n : Nat} (h : OkS σ n) {s : Str} (hs : Sl s) : Nm (RT.lk σ s) := h.nb _ (getD_mem (by rw [h.ps]; exact ix_sl hs))
theorem OkS.give {σ : AS} {n : Nat} (h : OkS σ n) (s : Str) {v : Int} (hv : Nm v) : OkS (σ.give s v) n := ⟨by show (σ.ps.set _ _).length = 8; rw [List.length_set]; exact h.ps, fun u hu => by
  rcases List.mem_or_eq_of_mem_set (show u ∈ σ.ps.set (ix s) v from hu) with z | z
  · exact h.nb _ z
  · rw [z]; exact hv, h.ln, h.ts, h.sn⟩
theorem OkS.see {σ : AS} {n : Nat} (h : OkS σ n) {b v : Int} (hv : Nm v) (hb : 0 ≤ b ∧ b < 16) : OkS { σ with sn := dput σ.sn b v } n := ⟨h.ps, h.nb, h.ln, h.ts, h.sn.put hv hb⟩
theorem ts_split {ts : List Dm} {n : Nat} (h : ts.length = n + 1) : ∃ t0 t, ts = t0 ++ [t] ∧ t0.length = n := by
  rcases List.eq_nil_or_concat ts with z | ⟨a, x, z⟩
  · subst z; simp at h
  · subst z; exact ⟨a, x, by simp, by simpa using h⟩
theorem OkS.put {σ : AS} {n : Nat} (h : OkS σ (n + 1)) {b v : Int} (hv : Nm v) (hb : 0 ≤ b ∧ b < 16) : OkS { σ with ts := topPut σ.ts b v } (n + 1) := by
  obtain ⟨t0, t, e, l⟩ := ts_split h.ln
  refine ⟨h.ps, h.nb, ?_, fun u hu => ?_, h.sn⟩
  · show (topPut σ.ts b v).length = _
    rw [e]; unfold topPut; simp [l]
  · have hu : u ∈ topPut σ.ts b v := hu
    rw [e] at hu
    unfold topPut at hu
    simp at hu
    rcases hu with hu | rfl
    · exact h.ts u (by rw [e]; simp [hu])
    · exact (h.ts t (by rw [e]; simp)).put hv hb
theorem OkS.push {σ : AS} {n : Nat} (h : OkS σ n) : OkS { σ with ts := σ.ts ++ [[]] } (n + 1) := ⟨h.ps, h.nb, by show (σ.ts ++ [[]]).length = _; simp [h.ln], fun u hu => by
  rcases List.mem_append.mp hu with hu | hu
  · exact h.ts u hu
  · rw [List.mem_singleton.mp hu]; exact .nil, h.sn⟩
theorem OkS.drop {σ : AS} {n : Nat} (h : OkS σ (n + 1)) : OkS { σ with ts := σ.ts.dropLast } n := ⟨h.ps, h.nb, by show σ.ts.dropLast.length = _; rw [List.length_dropLast, h.ln]; rfl, fun u hu => h.ts u (List.dropLast_subset _ hu), h.sn⟩
theorem settle_eq (t0 : List Dm) (m top : Dm) : settleT (t0 ++ [m] ++ [top]) = t0 ++ [putAll m top] := by unfold settleT; simp
theorem OkS.settle {σ : AS} {n : Nat} (h : OkS σ (n + 2)) : OkS { σ with ts := settleT σ.ts } (n + 1) := by
  obtain ⟨t1, top, e, l⟩ := ts_split (n := n + 1) h.ln
  obtain ⟨t0, m, e2, l2⟩ := ts_split l
  subst e2
  refine ⟨h.ps, h.nb, ?_, fun u hu => ?_, h.sn⟩
  · show (settleT σ.ts).length = _
    rw [e, settle_eq]; simp [l2]
  · have hu : u ∈ settleT σ.ts := hu
    rw [e, settle_eq] at hu
    rcases List.mem_append.mp hu with hu | hu
    · exact h.ts u (by rw [e]; simp [hu])
    · rw [List.mem_singleton.mp hu]
      exact DmOk.all _ _ (h.ts m (by rw [e]; simp)) (h.ts top (by rw [e]; simp))
theorem OkS.plain {bs : List Int} (ob : OkB bs) {σ : AS} {n : Nat} (h : OkS σ (n + 1)) {p : Pt} (ok : okP p) : OkS (plainS bs p σ) (n + 1) := by
  cases p with
  | let_ s v => exact h.give s ok.2
  | rk w s o t => exact h.give s (nm_rkn _ _ _)
  | take s p =>
    show OkS (takeS bs σ s p) _
    have b := ob.at (lk σ p)
    have hb : Nm (bs.getD (bxAt bs σ p).toNat 0) := ob.nb _ (getD_mem (by unfold bxAt; omega))
    unfold takeS
    simp only
    split
    · rename_i v e
      exact h.give _ (own_nm h.ts e)
    · exact (h.see hb ⟨b.1, b.2.2⟩).give _ hb
  | put p s =>
    have b := ob.at (lk σ p)
    exact h.put (h.lkN ok.2) ⟨b.1, b.2.2⟩
  | iff => exact h
  | eith => exact h
  | tryy => exact h
  | throw => exact h
  | wait => exact h
def EndOk (r : Option AE × AS) (n : Nat) : Prop := OkS r.2 n ∧ ∀ m v, r.1 = some (.fell m v) → Nm v
mutual
theorem okS_doP {bs : List Int} (ob : OkB bs) : ∀ (p : Pt) {σ : AS} {n : Nat}, okP p → OkS σ (n + 1) → EndOk (doP bs p σ) (n + 1)
  | .iff s ps os, σ, n, ok, h => by
    rw [doP]
    split
    · exact okS_doPs ob ps ok.2.1 h
    · exact okS_doPs ob os ok.2.2 h
  | .eith ps os, σ, n, ok, h => by
    rw [doP]
    have h2 := okS_doPs ob ps ok.1 h.push
    generalize doPs bs ps { σ with ts := σ.ts ++ [[]] } = r at h2
    match r, h2 with
    | (none, τ), h2 => exact ⟨h2.1.settle, fun m v e => by cases e⟩
    | (some .waits, τ), h2 => exact okS_doPs ob os ok.2 ⟨h.ps, h.nb, h2.1.drop.ln, h2.1.drop.ts, h2.1.sn⟩
    | (some (.fell m v), τ), h2 => exact ⟨h2.1.drop, h2.2⟩
  | .tryy ps m s os, σ, n, ok, h => by
    rw [doP]
    have h2 := okS_doPs ob ps ok.1 h.push
    generalize doPs bs ps { σ with ts := σ.ts ++ [[]] } = r at h2
    match r, h2 with
    | (none, τ), h2 => exact ⟨h2.1.settle, fun m v e => by cases e⟩
    | (some .waits, τ), h2 => exact ⟨h2.1.drop, fun m v e => by cases e⟩
    | (some (.fell k v), τ), h2 =>
      simp only
      split
      · exact okS_doPs ob os ok.2.2.2 (OkS.give (σ := ⟨σ.ps, τ.ts.dropLast, τ.sn⟩) ⟨h.ps, h.nb, h2.1.drop.ln, h2.1.drop.ts, h2.1.sn⟩ s (h2.2 _ _ rfl))
      · exact ⟨h2.1.drop, h2.2⟩
  | .throw m s, σ, n, ok, h => by rw [doP]; exact ⟨h, fun m v e => by cases e; exact h.lkN ok.2⟩
  | .wait, σ, n, ok, h => by rw [doP]; exact ⟨h, fun m v e => by cases e⟩
  | .let_ s m, σ, n, ok, h => by rw [doP]; exact ⟨h.plain (p := .let_ s m) ob ok, fun m v e => by cases e⟩
  | .rk w s o t, σ, n, ok, h => by rw [doP]; exact ⟨h.plain (p := .rk w s o t) ob ok, fun m v e => by cases e⟩
  | .take s p, σ, n, ok, h => by rw [doP]; exact ⟨h.plain (p := .take s p) ob ok, fun m v e => by cases e⟩
  | .put p s, σ, n, ok, h => by rw [doP]; exact ⟨h.plain (p := .put p s) ob ok, fun m v e => by cases e⟩
theorem okS_doPs {bs : List Int} (ob : OkB bs) : ∀ (ps : List Pt) {σ : AS} {n : Nat}, okPs ps → OkS σ (n + 1) → EndOk (doPs bs ps σ) (n + 1)
  | [], σ, n, ok, h => by rw [doPs]; exact ⟨h, fun m v e => by cases e⟩
  | p :: r, σ, n, ok, h => by
    rw [doPs]
    have h2 := okS_doP ob p ok.1 h
    generalize doP bs p σ = q at h2
    match q, h2 with
    | (none, τ), h2 => exact okS_doPs ob r ok.2 h2.1
    | (some e, τ), h2 => exact h2
end
def endD : Option AE → D
  | none => .raw .non
  | some .waits => .tup [.raw (.str "waits")]
  | some (.fell n v) => .tup [.raw (.str "fell"), .raw (.str n), .raw (.int v)]
def doF (bs : List Int) (P L : Addr) : List (Str × D) := [("stand", .lst (bs.map D.int)), ("pockets", .raw (.ref P)), ("log", .raw (.ref L))]
structure DoAt (d : Ad) (W : Wd) (x P L : Addr) (bs : List Int) (σ : AS) : Prop where
  hx : W x = some (.ins d.cDoer (doF bs P L))
  hP : W P = some (.lst (σ.ps.map D.int))
  hL : W L = some (logC d σ.ts σ.sn)
def doW (d : Ad) (W : Wd) (x P P' L : Addr) (bs : List Int) (σ : AS) : Wd := fun b => if b = x then some (.ins d.cDoer (doF bs P' L)) else if b = P' then some (.lst (σ.ps.map D.int)) else if b = L then some (logC d σ.ts σ.sn) else if b = P then none else W b
structure TDoer (d : Ad) : Prop where
  cl : Cls d.K d.cDoer
  n1 : NoAttr d.K d.cDoer "stand"
  n2 : NoAttr d.K d.cDoer "pockets"
  n3 : NoAttr d.K d.cDoer "log"
section
variable {d : Ad} {W : Wd} {x P P' P2 L : Addr} {bs : List Int} {σ τ : AS}
theorem DoAt.ne (h : DoAt d W x P L bs σ) : x ≠ P ∧ x ≠ L ∧ P ≠ L := by
  refine ⟨fun e => ?_, fun e => ?_, fun e => ?_⟩
  · have := h.hx; rw [e, h.hP] at this; cases this
  · have := h.hx; rw [e, h.hL] at this; cases this
  · have := h.hP; rw [e, h.hL] at this; cases this
theorem doW_at (h1 : P' ≠ x) (h2 : P' ≠ L) (h3 : x ≠ L) : DoAt d (doW d W x P P' L bs σ) x P' L bs σ := ⟨by unfold doW; rw [if_pos rfl], by unfold doW; rw [if_neg h1, if_pos rfl], by unfold doW; rw [if_neg h3.symm, if_neg h2.symm, if_pos rfl]⟩
theorem doW_doW (h : P' = P ∨ W P' = none) : doW d (doW d W x P P' L bs σ) x P' P2 L bs τ = doW d W x P P2 L bs τ := by
  funext b
  unfold doW
  by_cases h1 : b = x
  · simp [h1]
  · by_cases h2 : b = P2
    · simp [h1, h2]
    · by_cases h3 : b = L
      · simp [h1, h2, h3]
      · simp only [if_neg h1, if_neg h2, if_neg h3]
        by_cases h4 : b = P'
        · rw [if_pos h4]
          by_cases h5 : b = P
          · rw [if_pos h5]
          · rw [if_neg h5]
            rcases h with h | h
            · exact (h5 (h4.trans h)).elim
            · rw [h4, h]
        · rw [if_neg h4, if_neg h4]
theorem doW_id (h : DoAt d W x P L bs σ) : doW d W x P P L bs σ = W := by
  funext b
  unfold doW
  by_cases h1 : b = x
  · rw [if_pos h1, h1, h.hx]
  · by_cases h2 : b = P
    · rw [if_neg h1, if_pos h2, h2, h.hP]
    · by_cases h3 : b = L
      · rw [if_neg h1, if_neg h2, if_pos h3, h3, h.hL]
      · rw [if_neg h1, if_neg h2, if_neg h3, if_neg h2]
end
section
variable {d : Ad} {W : Wd} {x P L : Addr} {bs : List Int} {σ : AS}
theorem doW_P (g : DoAt d W x P L bs σ) (qs : List Int) : wset W P (.lst (qs.map D.int)) = doW d W x P P L bs { σ with ps := qs } := by
  obtain ⟨h1, h2, h3⟩ := g.ne
  funext b
  unfold doW
  by_cases z1 : b = x
  · rw [if_pos z1, z1, ws_ne h1, g.hx]
  · rw [if_neg z1]
    by_cases z2 : b = P
    · rw [if_pos z2, z2, ws_same]
    · rw [if_neg z2, ws_ne z2]
      by_cases z3 : b = L
      · rw [if_pos z3, z3, g.hL]
      · rw [if_neg z3, if_neg z2]
theorem doW_L (g : DoAt d W x P L bs σ) (ts : List Dm) (sn : Dm) : wset W L (logC d ts sn) = doW d W x P P L bs { σ with ts := ts, sn := sn } := by
  obtain ⟨h1, h2, h3⟩ := g.ne
  funext b
  unfold doW
  by_cases z1 : b = x
  · rw [if_pos z1, z1, ws_ne h2, g.hx]
  · rw [if_neg z1]
    by_cases z2 : b = P
    · rw [if_pos z2, z2, ws_ne h3, g.hP]
    · rw [if_neg z2]
      by_cases z3 : b = L
      · rw [if_pos z3, z3, ws_same]
      · rw [if_neg z3, ws_ne z3, if_neg z2]
theorem DoAt.w (g : DoAt d W x P L bs σ) (τ : AS) : DoAt d (doW d W x P P L bs τ) x P L bs τ := doW_at g.ne.1.symm g.ne.2.2 g.ne.2.1
end
theorem box_atI {bs : List Int} (ob : OkB bs) (σ : AS) (s : Str) : atI (bs.map D.int) (bxAt bs σ s) = some (.raw (.int (bs.getD (bxAt bs σ s).toNat 0))) := by
  have b := ob.at (lk σ s)
  obtain ⟨k, e⟩ : ∃ k : Nat, bxAt bs σ s = k := ⟨(bxAt bs σ s).toNat, by unfold bxAt; omega⟩
  have hk : k < bs.length := by unfold bxAt at e; omega
  rw [e, Int.toNat_natCast]
  refine atI_nat ?_
  rw [List.getElem?_map, List.getD_eq_getElem?_getD, List.getElem?_eq_getElem hk]
  rfl
theorem find_ah {s : Str} (h : Sl s) : Txt.find "abcdefgh" s = ((ix s : Nat) : Int) := by
  obtain ⟨k, hk, rfl⟩ := h
  rw [ix_lt]
  have z : ∀ k : Fin 8, Txt.find "abcdefgh" (lt1 (97 + k.val)) = ((k.val : Nat) : Int) := by decide +kernel
  exact z ⟨k, hk⟩
theorem slot_at {ps : List Int} (h : ps.length = 8) {s : Str} (hs : Sl s) : atI (ps.map D.int) ((ix s : Nat) : Int) = some (.raw (.int (ps.getD (ix s) 0))) := by
  refine atI_nat ?_
  have := ix_sl hs
  rw [List.getElem?_map, List.getD_eq_getElem?_getD, List.getElem?_eq_getElem (by omega)]
  rfl
theorem slot_ixN {ps : List Int} (h : ps.length = 8) {s : Str} (hs : Sl s) : ixN (ps.map D.int).length ((ix s : Nat) : Int) = some (ix s) := by
  have := ix_sl hs
  unfold ixN
  rw [List.length_map, h, if_pos (by omega), if_pos (by omega), Int.toNat_natCast]
def TWait (d : Ad) : Prop := ∀ k, PySem.W.kitOne d.K (.ref (cOf d k)) (.ref d.cWait) = some (decide (k = .wait))
theorem m_isi_wait {d : Ad} {W : Wd} {Q : KD} {C : Addr} {b : Bool} {ns : List Str} {ds : List D} (T : TParts d) (TW : TWait d) (k : Kd) (h : decide (k = .wait) = b) (e : cOf d k = C) (q : Q (.raw (.bl b)) W) : RC d.K (rIsi d.K) [.obj C ns ds, .raw (.ref d.cWait)] W Q := fun B H vs kk s r hk => by
  subst e
  cases r with
  | cons r1 r2 =>
    cases r2 with
    | cons r2 r3 =>
      cases r2; cases r3
      cases r1 with
      | obj g hl hs => exact w_isi (.own _) (ty_part T (s.ex _ _ g)) (by rw [TW k, h]) (hk _ B H _ W (Evl.Ex.refl _) s (.raw _) q)
def p_reckon (_ : Ad) : PF := fun ds W Q => ∃ (w : Str) (a b : Int), ds = [.str w, .int a, .int b] ∧ w ∈ five ∧ Nm a ∧ Nm b ∧ Q (.int (rkn w a b)) W
def p_Doer_look (d : Ad) : PF := fun ds W Q => ∃ (x : Addr) (s : Str), ds = [.ptr x, .str s] ∧ ∃ (P L : Addr) (bs : List Int) (σ : AS), DoAt d W x P L bs σ ∧ σ.ps.length = 8 ∧ Sl s ∧ Q (.int (lk σ s)) W
def p_Doer_give (d : Ad) : PF := fun ds W Q => ∃ (x : Addr) (s : Str) (v : Int), ds = [.ptr x, .str s, .int v] ∧ ∃ (P L : Addr) (bs : List Int) (σ : AS), DoAt d W x P L bs σ ∧ σ.ps.length = 8 ∧ Sl s ∧ Q .non (doW d W x P P L bs (σ.give s v))
def p_Doer_box_at (d : Ad) : PF := fun ds W Q => ∃ (x : Addr) (s : Str), ds = [.ptr x, .str s] ∧ ∃ (P L : Addr) (bs : List Int) (σ : AS), DoAt d W x P L bs σ ∧ σ.ps.length = 8 ∧ OkB bs ∧ Sl s ∧ Q (.int (bxAt bs σ s)) W
def p_Doer_take_in (d : Ad) : PF := fun ds W Q => ∃ (x : Addr) (s p : Str), ds = [.ptr x, pD d (.take s p)] ∧ ∃ (P L : Addr) (bs : List Int) (σ : AS) (n : Nat), DoAt d W x P L bs σ ∧ OkS σ n ∧ OkB bs ∧ Sl s ∧ Sl p ∧ Q .non (doW d W x P P L bs (takeS bs σ s p))
def p_Doer_do_plain (d : Ad) : PF := fun ds W Q => ∃ (x : Addr) (p : Pt), ds = [.ptr x, pD d p] ∧ ∃ (P L : Addr) (bs : List Int) (σ : AS) (n : Nat), DoAt d W x P L bs σ ∧ OkS σ (n + 1) ∧ OkB bs ∧ okP p ∧ isPlain p = true ∧ Q .non (doW d W x P P L bs (plainS bs p σ))
abbrev sp_reckon (d : Ad) : Sp := lift d.K (p_reckon d)
abbrev sp_Doer_look (d : Ad) : Sp := lift d.K (p_Doer_look d)
abbrev sp_Doer_give (d : Ad) : Sp := lift d.K (p_Doer_give d)
abbrev sp_Doer_box_at (d : Ad) : Sp := lift d.K (p_Doer_box_at d)
abbrev sp_Doer_take_in (d : Ad) : Sp := lift d.K (p_Doer_take_in d)
abbrev sp_Doer_do_plain (d : Ad) : Sp := lift d.K (p_Doer_do_plain d)
abbrev N_reckon : List Str := ["word", "one", "other"]
def t_reckon (d : Ad) : TS :=
  (tSeq (tIfS (tTest (tOp rEq (tVar 0) (tC (.str "plus")))) (tRet (aMod (aAdd (tVar 1) (tVar 2)) (tC (.int 18446744073709551616)))) tNext)
  (tSeq (tIfS (tTest (tOp rEq (tVar 0) (tC (.str "minus")))) (tRet (aMod (aSub (tVar 1) (tVar 2)) (tC (.int 18446744073709551616)))) tNext)
  (tSeq (tIfS (tTest (tOp rEq (tVar 0) (tC (.str "times")))) (tRet (aMod (aMul (tVar 1) (tVar 2)) (tC (.int 18446744073709551616)))) tNext)
  (tSeq (tIfS (tTest (tOp rEq (tVar 0) (tC (.str "less")))) (tRet (tCB rInt1 (tCons (tOp rLt (tVar 1) (tVar 2)) tNil))) tNext)
  (tRet (tCB rInt1 (tCons (tOp rEq (tVar 1) (tVar 2)) tNil)))))))
abbrev N_Doer_look : List Str := ["self", "letter"]
def t_Doer_look (d : Ad) : TS :=
  (tRet (tOp (rIxL d.K) (tFld d.K (tVar 0) "pockets") (aFind (tC (.str "abcdefgh")) (tVar 1))))
abbrev N_Doer_give : List Str := ["self", "letter", "number"]
def t_Doer_give (d : Ad) : TS :=
  (tAsg (tVar 2) (gSub (tFld d.K (tVar 0) "pockets") (aFind (tC (.str "abcdefgh")) (tVar 1)) rSetL))
abbrev N_Doer_box_at : List Str := ["self", "letter"]
def t_Doer_box_at (d : Ad) : TS :=
  (tRet (aMod (tMeth d.cDoer "look" (sp_Doer_look d) [] E0 (tVar 0) (tCons (tVar 1) tNil)) (tCB (Evl.rLenS d.K) (tCons (tFld d.K (tVar 0) "stand") tNil))))
abbrev N_Doer_take_in : List Str := ["self", "part", "box", "number"]
def t_Doer_take_in (d : Ad) : TS :=
  (tSeq (tAsg (tMeth d.cDoer "box_at" (sp_Doer_box_at d) [] E0 (tVar 0) (tCons (tFld d.K (tVar 1) "place") tNil)) (gName 2))
  (tSeq (tAsg (tMeth d.cLog "own" (sp_Log_own d) [] E0 (tFld d.K (tVar 0) "log") (tCons (tVar 2) tNil)) (gName 3))
  (tSeq (tIfS (tTest (tOp rIsN (tVar 3) (tC .non))) (tSeq (tAsg (tOp (rIxL d.K) (tFld d.K (tVar 0) "stand") (tVar 2)) (gName 3))
  (tDrop (tMeth d.cLog "see" (sp_Log_see d) [] E0 (tFld d.K (tVar 0) "log") (tCons (tVar 2) (tCons (tVar 3) tNil))))) tNext)
  (tDrop (tMeth d.cDoer "give" (sp_Doer_give d) [] E0 (tVar 0) (tCons (tFld d.K (tVar 1) "slot") (tCons (tVar 3) tNil)))))))
abbrev N_Doer_do_plain : List Str := ["self", "part"]
def t_Doer_do_plain (d : Ad) : TS :=
  (tIfS (tB (tCB (rIsi d.K) (tCons (tVar 1) (tCons (tC (.ref d.cLet)) tNil)))) (tDrop (tMeth d.cDoer "give" (sp_Doer_give d) [] E0 (tVar 0) (tCons (tFld d.K (tVar 1) "slot") (tCons (tFld d.K (tVar 1) "number") tNil)))) (tIfS (tB (tCB (rIsi d.K) (tCons (tVar 1) (tCons (tC (.ref d.cReckon)) tNil)))) (tDrop (tMeth d.cDoer "give" (sp_Doer_give d) [] E0 (tVar 0) (tCons (tFld d.K (tVar 1) "slot") (tCons (tCall (sp_reckon d) [] E0 (tCons (tFld d.K (tVar 1) "word") (tCons (tMeth d.cDoer "look" (sp_Doer_look d) [] E0 (tVar 0) (tCons (tFld d.K (tVar 1) "one") tNil)) (tCons (tMeth d.cDoer "look" (sp_Doer_look d) [] E0 (tVar 0) (tCons (tFld d.K (tVar 1) "other") tNil)) tNil)))) tNil)))) (tIfS (tB (tCB (rIsi d.K) (tCons (tVar 1) (tCons (tC (.ref d.cTake)) tNil)))) (tDrop (tMeth d.cDoer "take_in" (sp_Doer_take_in d) [] E0 (tVar 0) (tCons (tVar 1) tNil))) (tIfS (tB (tCB (rIsi d.K) (tCons (tVar 1) (tCons (tC (.ref d.cPut)) tNil)))) (tDrop (tMeth d.cLog "write" (sp_Log_write d) [] E0 (tFld d.K (tVar 0) "log") (tCons (tMeth d.cDoer "box_at" (sp_Doer_box_at d) [] E0 (tVar 0) (tCons (tFld d.K (tVar 1) "place") tNil)) (tCons (tMeth d.cDoer "look" (sp_Doer_look d) [] E0 (tVar 0) (tCons (tFld d.K (tVar 1) "slot") tNil)) tNil)))) tNext))))
local macro_rules | `(tactic| walk_at "callm") => `(tactic| walk_at "isim")
section
variable {d : Ad} {vs : List V} {H : Hp} {Q : VK} {E : XK}
theorem pure_reckon (h : sp_reckon d vs H Q E) : t_reckon d { nx := fun _ H' => Q .non H', rt := Q } (start N_reckon vs) H := by
  refine lift_pure h fun ds W Q hp => ?_
  obtain ⟨w, a, b, rfl, hw, ha, hb, k⟩ := hp
  show WS d.K (t_reckon d) [some (.raw (.str w)), some (.raw (.int a)), some (.raw (.int b))] W _
  unfold t_reckon
  have hm : CMul a b := .inl ⟨by have := ha.1; omega, by have := ha.2; unfold WIDE at this; omega⟩
  simp only [five, List.mem_cons, List.not_mem_nil, or_false] at hw
  rcases hw with rfl | rfl | rfl | rfl | rfl
  · walk_at "mgo"
    exact ret_dat (Sub.refl _) k
  · walk_at "mgo"
    exact ret_dat (Sub.refl _) k
  · walk_at "mgo"
    exact ret_dat (Sub.refl _) k
  · walk_at "mgo"
    rw [show (if dB (a < b) = true then (1 : Int) else 0) = rkn "less" a b from by
      rw [show rkn "less" a b = if a < b then 1 else 0 from rfl]
      by_cases z : a < b
      · rw [dB_t z, if_pos rfl, if_pos z]
      · rw [dB_f z, if_neg Bool.false_ne_true, if_neg z]]
    exact ret_dat (Sub.refl _) k
  · walk_at "mgo"
    rw [show (if dB (a = b) = true then (1 : Int) else 0) = rkn "same" a b from by
      rw [show rkn "same" a b = if a = b then 1 else 0 from rfl]
      by_cases z : a = b
      · rw [dB_t z, if_pos rfl, if_pos z]
      · rw [dB_f z, if_neg Bool.false_ne_true, if_neg z]]
    exact ret_dat (Sub.refl _) k
theorem pure_Doer_look (T : TDoer d) (h : sp_Doer_look d vs H Q E) : t_Doer_look d { nx := fun _ H' => Q .non H', rt := Q } (start N_Doer_look vs) H := by
  refine lift_vs h fun ds W Q hp => ?_
  obtain ⟨x, s, rfl, P, L, bs, σ, g, h8, hs, k⟩ := hp
  have c := T.cl
  have n2 := T.n2
  have gx := g.hx
  have gP := g.hP
  unfold doF at gx
  show WS d.K (t_Doer_look d) [some (.raw (.ref x)), some (.raw (.str s))] W _
  unfold t_Doer_look
  walk_at "mgo"
  refine d_find ?_
  rw [find_ah hs]
  refine d_ixL (SeqD.own gP) (slot_at h8 hs) ?_
  exact ret_dat (Sub.refl _) k
theorem pure_Doer_box_at (T : TDoer d) (h : sp_Doer_box_at d vs H Q E) : t_Doer_box_at d { nx := fun _ H' => Q .non H', rt := Q } (start N_Doer_box_at vs) H := by
  refine lift_vs h fun ds W Q hp => ?_
  obtain ⟨x, s, rfl, P, L, bs, σ, g, h8, ob, hs, k⟩ := hp
  have c := T.cl
  have n1 := T.n1
  have gx := g.hx
  unfold doF at gx
  have lb := ob.l1
  show WS d.K (t_Doer_box_at d) [some (.raw (.ref x)), some (.raw (.str s))] W _
  unfold t_Doer_box_at
  walk_at "mgo"
  refine ⟨x, s, rfl, P, L, bs, σ, g, h8, hs, ?_⟩
  walk_at "mgo"
  rw [List.length_map]
  refine d_i (by show (0 : Int) < _; omega) ?_
  exact ret_dat (Sub.refl _) k
theorem pure_Doer_give (T : TDoer d) (h : sp_Doer_give d vs H Q E) : t_Doer_give d { nx := fun _ H' => Q .non H', rt := Q } (start N_Doer_give vs) H := by
  refine lift_vs h fun ds W Q hp => ?_
  obtain ⟨x, s, v, rfl, P, L, bs, σ, g, h8, hs, k⟩ := hp
  have c := T.cl
  have n2 := T.n2
  have gx := g.hx
  have gP := g.hP
  unfold doF at gx
  show WS d.K (t_Doer_give d) [some (.raw (.ref x)), some (.raw (.str s)), some (.raw (.int v))] W _
  unfold t_Doer_give
  walk_at "mgo"
  refine wg_sub ?_
  walk_at "mgo"
  refine d_find ?_
  rw [find_ah hs]
  refine d_setL gP (slot_ixN h8 hs) ?_
  rw [show (σ.ps.map D.int).set (ix s) (.raw (.int v)) = (σ.ps.set (ix s) v).map D.int from List.map_set.symm, doW_P g]
  exact sub_q (Sub.refl _) k
theorem pure_Doer_take_in (TP : TParts d) (T : TDoer d) (h : sp_Doer_take_in d vs H Q E) : t_Doer_take_in d { nx := fun _ H' => Q .non H', rt := Q } (start N_Doer_take_in vs) H := by
  refine lift_vs h fun ds W Q hp => ?_
  obtain ⟨x, s, p, rfl, P, L, bs, σ, n, g, ok, ob, hs, hp, k⟩ := hp
  have c := T.cl
  have n1 := T.n1
  have n3 := T.n3
  have c2 : Cls d.K d.cTake := TP.cl .take
  have m0 : NoAttr d.K d.cTake "slot" := TP.na .take _ (by simp [atK])
  have m1 : NoAttr d.K d.cTake "place" := TP.na .take _ (by simp [atK])
  have gx := g.hx
  have gL := g.hL
  unfold doF at gx
  show WS d.K (t_Doer_take_in d) [some (.raw (.ref x)), some (pD d (.take s p)), none, none] W _
  unfold t_Doer_take_in
  rw [pD]
  walk_at "mgo"
  refine ⟨x, p, rfl, P, L, bs, σ, g, ok.ps, ob, hp, ?_⟩
  walk_at "mgo"
  refine ⟨L, _, σ.ts, σ.sn, rfl, gL, ?_⟩
  unfold takeS at k
  simp only at k
  cases e : ownM σ.ts (bxAt bs σ p) with
  | some v =>
    rw [e] at k
    rw [show optD (some v) = .raw (.int v) from rfl]
    walk_at "mgo"
    exact ⟨x, s, v, rfl, P, L, bs, σ, g, ok.ps, hs, sub_q (Sub.refl _) k⟩
  | none =>
    rw [e] at k
    rw [show optD none = .raw .non from rfl]
    walk_at "mgo"
    refine d_ixL (SeqD.lst _) (box_atI ob σ p) ?_
    walk_at "mgo"
    refine ⟨L, _, _, σ.ts, σ.sn, rfl, gL, by have := ok.sn.k.len; omega, ?_⟩
    rw [doW_L g]
    have g2 := g.w { σ with ts := σ.ts, sn := dput σ.sn (bxAt bs σ p) (bs.getD (bxAt bs σ p).toNat 0) }
    have gx2 := g2.hx
    unfold doF at gx2
    walk_at "mgo"
    refine ⟨x, s, _, rfl, P, L, bs, _, g2, ok.ps, hs, ?_⟩
    rw [doW_doW (.inl rfl)]
    exact sub_q (Sub.refl _) k
theorem pure_Doer_do_plain (TP : TParts d) (T : TDoer d) (h : sp_Doer_do_plain d vs H Q E) : t_Doer_do_plain d { nx := fun _ H' => Q .non H', rt := Q } (start N_Doer_do_plain vs) H := by
  refine lift_vs h fun ds W Q hp => ?_
  obtain ⟨x, p, rfl, P, L, bs, σ, n, g, ok, ob, okp, pl, k⟩ := hp
  have c := T.cl
  have n3 := T.n3
  have gx := g.hx
  have gL := g.hL
  unfold doF at gx
  show WS d.K (t_Doer_do_plain d) [some (.raw (.ref x)), some (pD d p)] W _
  unfold t_Doer_do_plain
  cases p with
  | iff => cases pl
  | eith => cases pl
  | tryy => cases pl
  | let_ s v =>
    have hk : cOf d .let_ = d.cLet := rfl
    have c2 : Cls d.K d.cLet := TP.cl .let_
    have m0 : NoAttr d.K d.cLet "slot" := TP.na .let_ _ (by simp [atK])
    have m1 : NoAttr d.K d.cLet "number" := TP.na .let_ _ (by simp [atK])
    rw [pD]
    walk_at "mgo"
    exact ⟨x, s, v, rfl, P, L, bs, σ, g, ok.ps, okp.1, sub_q (Sub.refl _) k⟩
  | rk w s o t =>
    have hk : cOf d .rk = d.cReckon := rfl
    have c2 : Cls d.K d.cReckon := TP.cl .rk
    have m0 : NoAttr d.K d.cReckon "word" := TP.na .rk _ (by simp [atK])
    have m1 : NoAttr d.K d.cReckon "slot" := TP.na .rk _ (by simp [atK])
    have m2 : NoAttr d.K d.cReckon "one" := TP.na .rk _ (by simp [atK])
    have m3 : NoAttr d.K d.cReckon "other" := TP.na .rk _ (by simp [atK])
    rw [pD]
    walk_at "mgo"
    refine ⟨x, o, rfl, P, L, bs, σ, g, ok.ps, okp.2.2.1, ?_⟩
    walk_at "mgo"
    refine ⟨x, t, rfl, P, L, bs, σ, g, ok.ps, okp.2.2.2, ?_⟩
    walk_at "mgo"
    refine ⟨w, _, _, rfl, okp.1, ok.lkN okp.2.2.1, ok.lkN okp.2.2.2, ?_⟩
    walk_at "mgo"
    exact ⟨x, s, _, rfl, P, L, bs, σ, g, ok.ps, okp.2.1, sub_q (Sub.refl _) k⟩
  | take s p =>
    have hk : cOf d .take = d.cTake := rfl
    rw [pD]
    walk_at "mgo"
    exact ⟨x, s, p, by rw [pD], P, L, bs, σ, _, g, ok, ob, okp.1, okp.2, sub_q (Sub.refl _) k⟩
  | put p s =>
    have hk : cOf d .put = d.cPut := rfl
    have c2 : Cls d.K d.cPut := TP.cl .put
    have m0 : NoAttr d.K d.cPut "slot" := TP.na .put _ (by simp [atK])
    have m1 : NoAttr d.K d.cPut "place" := TP.na .put _ (by simp [atK])
    rw [pD]
    walk_at "mgo"
    refine ⟨x, p, rfl, P, L, bs, σ, g, ok.ps, ob, okp.1, ?_⟩
    walk_at "mgo"
    refine ⟨x, s, rfl, P, L, bs, σ, g, ok.ps, okp.2, ?_⟩
    walk_at "mgo"
    obtain ⟨t0, t, e, l⟩ := ts_split ok.ln
    refine ⟨L, _, _, t0, t, σ.sn, rfl, by rw [← e]; exact gL, by have := (ok.ts t (by rw [e]; simp)).k.len; omega, ?_⟩
    rw [show t0 ++ [dput t (bxAt bs σ p) (lk σ s)] = topPut σ.ts (bxAt bs σ p) (lk σ s) from by rw [e]; unfold topPut; simp, doW_L g]
    exact sub_q (Sub.refl _) k
  | throw m s =>
    have hk : cOf d .throw = d.cThrow := rfl
    rw [pD]
    walk_at "mgo"
    rw [show plainS bs (.throw m s) σ = σ from rfl, doW_id g] at k
    exact sub_q (Sub.refl _) k
  | wait =>
    have hk : cOf d .wait = d.cWait := rfl
    rw [pD]
    walk_at "mgo"
    rw [show plainS bs .wait σ = σ from rfl, doW_id g] at k
    exact sub_q (Sub.refl _) k
end
def pN_Doer_do_either (n : Nat) (d : Ad) : PF := fun ds W Q => ∃ (x : Addr) (qs os : List Pt), ds = [.ptr x, pD d (.eith qs os)] ∧ ∃ (P L : Addr) (bs : List Int) (σ : AS) (m : Nat), DoAt d W x P L bs σ ∧ OkS σ (m + 1) ∧ OkB bs ∧ okP (.eith qs os) ∧ m + ndP (.eith qs os) ≤ 500 ∧ ndP (.eith qs os) ≤ n + 1 ∧
  ∀ P', (P' = P ∨ W P' = none) → P' ≠ x → P' ≠ L → Q (endD (doP bs (.eith qs os) σ).1) (doW d W x P P' L bs (doP bs (.eith qs os) σ).2)
def pN_Doer_do_try (n : Nat) (d : Ad) : PF := fun ds W Q => ∃ (x : Addr) (qs os : List Pt) (nm s : Str), ds = [.ptr x, pD d (.tryy qs nm s os)] ∧ ∃ (P L : Addr) (bs : List Int) (σ : AS) (m : Nat), DoAt d W x P L bs σ ∧ OkS σ (m + 1) ∧ OkB bs ∧ okP (.tryy qs nm s os) ∧ m + ndP (.tryy qs nm s os) ≤ 500 ∧ ndP (.tryy qs nm s os) ≤ n + 1 ∧
  ∀ P', (P' = P ∨ W P' = none) → P' ≠ x → P' ≠ L → Q (endD (doP bs (.tryy qs nm s os) σ).1) (doW d W x P P' L bs (doP bs (.tryy qs nm s os) σ).2)
def pN_Doer_do_part (n : Nat) (d : Ad) : PF := fun ds W Q => ∃ (x : Addr) (p : Pt), ds = [.ptr x, pD d p] ∧ ∃ (P L : Addr) (bs : List Int) (σ : AS) (m : Nat), DoAt d W x P L bs σ ∧ OkS σ (m + 1) ∧ OkB bs ∧ okP p ∧ m + ndP p ≤ 500 ∧ ndP p ≤ n ∧
  ∀ P', (P' = P ∨ W P' = none) → P' ≠ x → P' ≠ L → Q (endD (doP bs p σ).1) (doW d W x P P' L bs (doP bs p σ).2)
def pN_Doer_do_all (n : Nat) (d : Ad) : PF := fun ds W Q => ∃ (x : Addr) (ps : List Pt), ds = [.ptr x, .lst (psD d ps)] ∧ ∃ (P L : Addr) (bs : List Int) (σ : AS) (m : Nat), DoAt d W x P L bs σ ∧ OkS σ (m + 1) ∧ OkB bs ∧ okPs ps ∧ m + ndPs ps ≤ 500 ∧ ndPs ps < n ∧
  ∀ P', (P' = P ∨ W P' = none) → P' ≠ x → P' ≠ L → Q (endD (doPs bs ps σ).1) (doW d W x P P' L bs (doPs bs ps σ).2)
abbrev spN_Doer_do_either (n : Nat) (d : Ad) : Sp := lift d.K (pN_Doer_do_either n d)
abbrev sp_Doer_do_either (d : Ad) : Sp := spN_Doer_do_either 60 d
abbrev spN_Doer_do_try (n : Nat) (d : Ad) : Sp := lift d.K (pN_Doer_do_try n d)
abbrev sp_Doer_do_try (d : Ad) : Sp := spN_Doer_do_try 60 d
abbrev spN_Doer_do_part (n : Nat) (d : Ad) : Sp := lift d.K (pN_Doer_do_part n d)
abbrev sp_Doer_do_part (d : Ad) : Sp := spN_Doer_do_part 60 d
abbrev spN_Doer_do_all (n : Nat) (d : Ad) : Sp := lift d.K (pN_Doer_do_all n d)
abbrev sp_Doer_do_all (d : Ad) : Sp := spN_Doer_do_all 60 d
section
variable {d : Ad} {vs : List V} {H : Hp} {Q : VK} {E : XK}
theorem no_Doer_do_part (h : spN_Doer_do_part 0 d vs H Q E) : False := by
  obtain ⟨_, _, _, _, _, _, ⟨_, p, _, _, _, _, _, _, _, _, _, _, _, h, _⟩, _⟩ := h
  have := ndP_pos p
  omega
theorem no_Doer_do_all (h : spN_Doer_do_all 0 d vs H Q E) : False := by
  obtain ⟨_, _, _, _, _, _, ⟨_, _, _, _, _, _, _, _, _, _, _, _, _, h, _⟩, _⟩ := h
  omega
theorem no_Doer_do_either (h : spN_Doer_do_either 0 d vs H Q E) : False := by
  obtain ⟨_, _, _, _, _, _, ⟨_, _, _, _, _, _, _, _, _, _, _, _, _, _, h, _⟩, _⟩ := h
  simp only [ndP] at h
  omega
theorem no_Doer_do_try (h : spN_Doer_do_try 0 d vs H Q E) : False := by
  obtain ⟨_, _, _, _, _, _, ⟨_, _, _, _, _, _, _, _, _, _, _, _, _, _, _, _, h, _⟩, _⟩ := h
  simp only [ndP] at h
  omega
end
end
set_option Elab.async false
set_option linter.all false
set_option maxRecDepth 100000
set_option maxHeartbeats 400000
set_option autoImplicit false
local macro_rules | `(tactic| walk_at "ne") => `(tactic| first | assumption | exact Ne.symm (by assumption) | ((refine' ne2 ?h1 ?h2); (case h1 => assumption); (case h2 => walk_at "hk")) | ((refine' ne2s ?h1 ?h2); (case h1 => assumption); (case h2 => walk_at "hk")) | exact ne_head (by assumption) | exact ne_of (by assumption) (by assumption) (by intro z; cases z))
local macro_rules | `(tactic| walk_at "hk") => `(tactic| first | assumption | with_reducible exact upd_same | ((with_reducible refine' up_ne ?h1 ?h2); (case h1 => walk_at "ne"); (case h2 => walk_at "hk")) | ((with_reducible refine' ex_at ?h1 ?h2); (case h1 => assumption); (case h2 => walk_at "hk")))
section
open PySem L2
local macro_rules | `(tactic| walk_at "sc") => `(tactic| first | assumption | decide | omega | (unfold CMul; omega) | (unfold CDiv; omega) | (unfold CPow; decide) | (unfold CDiv; decide))
local macro_rules | `(tactic| walk_at "go") => `(tactic| (repeat (first | walk_at "step" | walk_at "callx")))
local macro_rules | `(tactic| walk_at "len") => `(tactic| first
  | (obtain ⟨rfl, _⟩ := h; rfl) | (obtain ⟨_, rfl, _⟩ := h; rfl) | (obtain ⟨_, _, rfl, _⟩ := h; rfl) | (obtain ⟨_, _, _, rfl, _⟩ := h; rfl) | (obtain ⟨_, _, _, _, rfl, _⟩ := h; rfl)
  | (obtain ⟨_, _, _, _, _, rfl, _⟩ := h; rfl) | (obtain ⟨_, _, _, _, _, _, rfl, _⟩ := h; rfl) | (obtain ⟨_, _, _, _, _, _, _, rfl, _⟩ := h; rfl) | (obtain ⟨_, _, _, _, _, _, _, _, rfl, _⟩ := h; rfl)
  | (obtain ⟨_, _, _, _, _, _, _, _, _, rfl, _⟩ := h; rfl) | (obtain ⟨_, _, _, _, _, _, _, _, _, _, rfl, _⟩ := h; rfl))
local macro_rules | `(tactic| walk_at "sd") => `(tactic| first | with_reducible assumption | with_reducible exact SeqD.lst _ | with_reducible exact SeqD.scr _ | ((with_reducible refine' SeqD.own ?h); (case h => walk_at "wk")) | ((with_reducible refine' SeqD.er ?m ?h); (case h => with_reducible assumption); (case m => walk_at "sub")))
local macro_rules | `(tactic| walk_at "cd") => `(tactic| first | with_reducible assumption | with_reducible exact CatD.lst _ | ((with_reducible refine' CatD.own ?h); (case h => walk_at "wk")))
local macro_rules | `(tactic| walk_at "le") => `(tactic| repeat (first | exact EnvLe.nil | exact EnvLe.refl _ | with_reducible refine' EnvLe.cons (.inl rfl) ?_ | with_reducible refine' EnvLe.cons (.inr rfl) ?_))
def p_Doer_init (d : Ad) : PF := fun ds W Q => ∃ (x : Addr) (a b : D), ds = [.ptr x, a, b] ∧ ∃ (bs ps : List Int), W x = some (.ins d.cDoer []) ∧ SeqD (wer W x) a (bs.map D.int) ∧ SeqD (wer W x) b (ps.map D.int) ∧
  ∀ P L, W P = none → W L = none → P ≠ L → Q .non (wset (wset (wset W P (.lst (ps.map D.int))) L (logC d [[]] [])) x (.ins d.cDoer (doF bs P L)))
def p_alone (d : Ad) : PF := fun ds W Q => ∃ (ps : List Pt) (a b : D), ds = [.lst (psD d ps), a, b] ∧ ∃ (bs qs : List Int), SeqD W a (bs.map D.int) ∧ SeqD W b (qs.map D.int) ∧ OkB bs ∧ qs.length = 8 ∧ (∀ v ∈ qs, Nm v) ∧ okPs ps ∧ ndPs ps ≤ 40 ∧
  ∀ r e τ, doPs bs ps ⟨qs, [[]], []⟩ = (e, τ) → ∀ u v w, W u = none → wset W u (.lst (bxD τ.sn)) v = none → wset (wset W u (.lst (bxD τ.sn))) v (.lst (match e with | none => bxD (τ.ts.getLastD []) | some _ => [])) w = none →
    r = D.tup [match e with | none => .tup [.raw (.str "done")] | some _ => endD e, .ptr u, .ptr v, .ptr w] → Q r (wset (wset (wset W u (.lst (bxD τ.sn))) v (.lst (match e with | none => bxD (τ.ts.getLastD []) | some _ => []))) w (.lst ((match e with | none => τ.ps | some _ => qs).map D.int)))
abbrev sp_Doer_init (d : Ad) : Sp := lift d.K (p_Doer_init d)
abbrev sp_alone (d : Ad) : Sp := lift d.K (p_alone d)
abbrev N_Doer_init : List Str := ["self", "boxes", "slots"]
def t_Doer_init (d : Ad) : TS :=
  (tSeq (sFld d.K (tVar 0) (tCB (rListOf d.K) (tCons (tVar 1) tNil)) "stand")
  (tSeq (sFld d.K (tVar 0) (tCB (rListOf d.K) (tCons (tVar 2) tNil)) "pockets")
  (sFld d.K (tVar 0) (tMake d.cLog (sp_Log_init d) [] E0 tNil) "log")))
abbrev N_Doer_do_either : List Str := ["self", "part", "kept", "end"]
def t_Doer_do_either (n : Nat) (d : Ad) : TS :=
  (tSeq (tAsg (tCB (rListOf d.K) (tCons (tFld d.K (tVar 0) "pockets") tNil)) (gName 2))
  (tSeq (tDrop (tMeth d.cLog "begin" (sp_Log_begin d) [] E0 (tFld d.K (tVar 0) "log") tNil))
  (tSeq (tAsg (tMeth d.cDoer "do_all" (spN_Doer_do_all n d) [] E0 (tVar 0) (tCons (tFld d.K (tVar 1) "parts") tNil)) (gName 3))
  (tSeq (tIfS (tTest (tOp rIsN (tVar 3) (tC .non))) (tSeq (tDrop (tMeth d.cLog "settle" (sp_Log_settle d) [] E0 (tFld d.K (tVar 0) "log") tNil))
  (tRet (tC .non))) tNext)
  (tSeq (tDrop (tMeth d.cLog "drop" (sp_Log_drop d) [] E0 (tFld d.K (tVar 0) "log") tNil))
  (tSeq (tIfS (tTest (tOp rNe (tOp (rIxT d.K) (tVar 3) (tC (.int 0))) (tC (.str "waits")))) (tRet (tVar 3)) tNext)
  (tSeq (sFld d.K (tVar 0) (tVar 2) "pockets")
  (tRet (tMeth d.cDoer "do_all" (spN_Doer_do_all n d) [] E0 (tVar 0) (tCons (tFld d.K (tVar 1) "others") tNil))))))))))
abbrev N_Doer_do_try : List Str := ["self", "part", "kept", "end"]
def t_Doer_do_try (n : Nat) (d : Ad) : TS :=
  (tSeq (tAsg (tCB (rListOf d.K) (tCons (tFld d.K (tVar 0) "pockets") tNil)) (gName 2))
  (tSeq (tDrop (tMeth d.cLog "begin" (sp_Log_begin d) [] E0 (tFld d.K (tVar 0) "log") tNil))
  (tSeq (tAsg (tMeth d.cDoer "do_all" (spN_Doer_do_all n d) [] E0 (tVar 0) (tCons (tFld d.K (tVar 1) "parts") tNil)) (gName 3))
  (tSeq (tIfS (tTest (tOp rIsN (tVar 3) (tC .non))) (tSeq (tDrop (tMeth d.cLog "settle" (sp_Log_settle d) [] E0 (tFld d.K (tVar 0) "log") tNil))
  (tRet (tC .non))) tNext)
  (tSeq (tDrop (tMeth d.cLog "drop" (sp_Log_drop d) [] E0 (tFld d.K (tVar 0) "log") tNil))
  (tSeq (tIfS (tOr (tTest (tOp rNe (tOp (rIxT d.K) (tVar 3) (tC (.int 0))) (tC (.str "fell")))) (tTest (tOp rNe (tOp (rIxT d.K) (tVar 3) (tC (.int 1))) (tFld d.K (tVar 1) "name")))) (tRet (tVar 3)) tNext)
  (tSeq (sFld d.K (tVar 0) (tVar 2) "pockets")
  (tSeq (tDrop (tMeth d.cDoer "give" (sp_Doer_give d) [] E0 (tVar 0) (tCons (tFld d.K (tVar 1) "slot") (tCons (tOp (rIxT d.K) (tVar 3) (tC (.int 2))) tNil))))
  (tRet (tMeth d.cDoer "do_all" (spN_Doer_do_all n d) [] E0 (tVar 0) (tCons (tFld d.K (tVar 1) "others") tNil)))))))))))
abbrev N_Doer_do_part : List Str := ["self", "part"]
def t_Doer_do_part (n : Nat) (d : Ad) : TS :=
  (tSeq (tIfS (tB (tCB (rIsi d.K) (tCons (tVar 1) (tCons (tC (.ref d.cIf)) tNil)))) (tSeq (tIfS (tTest (tOp rNe (tMeth d.cDoer "look" (sp_Doer_look d) [] E0 (tVar 0) (tCons (tFld d.K (tVar 1) "slot") tNil)) (tC (.int 0)))) (tRet (tMeth d.cDoer "do_all" (spN_Doer_do_all n d) [] E0 (tVar 0) (tCons (tFld d.K (tVar 1) "parts") tNil))) tNext)
  (tRet (tMeth d.cDoer "do_all" (spN_Doer_do_all n d) [] E0 (tVar 0) (tCons (tFld d.K (tVar 1) "others") tNil)))) tNext)
  (tSeq (tIfS (tB (tCB (rIsi d.K) (tCons (tVar 1) (tCons (tC (.ref d.cEither)) tNil)))) (tRet (tMeth d.cDoer "do_either" (spN_Doer_do_either n d) [] E0 (tVar 0) (tCons (tVar 1) tNil))) tNext)
  (tSeq (tIfS (tB (tCB (rIsi d.K) (tCons (tVar 1) (tCons (tC (.ref d.cTry)) tNil)))) (tRet (tMeth d.cDoer "do_try" (spN_Doer_do_try n d) [] E0 (tVar 0) (tCons (tVar 1) tNil))) tNext)
  (tSeq (tIfS (tB (tCB (rIsi d.K) (tCons (tVar 1) (tCons (tC (.ref d.cThrow)) tNil)))) (tRet (tTup (tCons (tC (.str "fell")) (tCons (tFld d.K (tVar 1) "name") (tCons (tMeth d.cDoer "look" (sp_Doer_look d) [] E0 (tVar 0) (tCons (tFld d.K (tVar 1) "slot") tNil)) tNil))))) tNext)
  (tSeq (tIfS (tB (tCB (rIsi d.K) (tCons (tVar 1) (tCons (tC (.ref d.cWait)) tNil)))) (tRet (tTup (tCons (tC (.str "waits")) tNil))) tNext)
  (tSeq (tDrop (tMeth d.cDoer "do_plain" (sp_Doer_do_plain d) [] E0 (tVar 0) (tCons (tVar 1) tNil)))
  (tRet (tC .non))))))))
abbrev N_Doer_do_all : List Str := ["self", "parts", "part", "end"]
def t_Doer_do_all (n : Nat) (d : Ad) : TS :=
  (tSeq (tFor (iList d.K (tVar 1)) (gName 2) (tSeq (tAsg (tMeth d.cDoer "do_part" (spN_Doer_do_part n d) [] E0 (tVar 0) (tCons (tVar 2) tNil)) (gName 3))
  (tIfS (tTest (tOp rNotN (tVar 3) (tC .non))) (tRet (tVar 3)) tNext)))
  (tRet (tC .non)))
abbrev N_alone : List Str := ["deed", "boxes", "slots", "doer", "end"]
def t_alone (d : Ad) : TS :=
  (tSeq (tAsg (tMake d.cDoer (sp_Doer_init d) [] E0 (tCons (tVar 1) (tCons (tVar 2) tNil))) (gName 3))
  (tSeq (tAsg (tMeth d.cDoer "do_all" (sp_Doer_do_all d) [] E0 (tVar 3) (tCons (tVar 0) tNil)) (gName 4))
  (tSeq (tIfS (tTest (tOp rIsN (tVar 4) (tC .non))) (tRet (tTup (tCons (tTup (tCons (tC (.str "done")) tNil)) (tCons (tMeth d.cLog "saw" (sp_Log_saw d) [] E0 (tFld d.K (tVar 3) "log") tNil) (tCons (tMeth d.cLog "wrote" (sp_Log_wrote d) [] E0 (tFld d.K (tVar 3) "log") tNil) (tCons (tCB (rListOf d.K) (tCons (tFld d.K (tVar 3) "pockets") tNil)) tNil)))))) tNext)
  (tRet (tTup (tCons (tVar 4) (tCons (tMeth d.cLog "saw" (sp_Log_saw d) [] E0 (tFld d.K (tVar 3) "log") tNil) (tCons (tLst tNil) (tCons (tCB (rListOf d.K) (tCons (tVar 2) tNil)) tNil)))))))))
local macro_rules | `(tactic| walk_at "callm") => `(tactic| first | walk_at "isim" | ((with_reducible refine' m_isi_wait ?t ?tw ?k ?h ?e ?_); (case t => assumption); (case tw => assumption); (case e => assumption); (case h => rfl)))
theorem doPs_app (bs : List Int) : ∀ (a b : List Pt) (σ : AS), doPs bs (a ++ b) σ = match doPs bs a σ with | (none, τ) => doPs bs b τ | (some e, τ) => (some e, τ)
  | [], b, σ => by rw [List.nil_append, doPs]
  | p :: r, b, σ => by
    rw [List.cons_append, doPs, doPs]
    generalize doP bs p σ = q
    match q with
    | (none, τ) => exact doPs_app bs r b τ
    | (some e, τ) => rfl
theorem doPs_one (bs : List Int) (p : Pt) (σ : AS) : doPs bs [p] σ = doP bs p σ := by
  rw [doPs]
  generalize doP bs p σ = q
  match q with
  | (none, τ) => simp only; rw [doPs]
  | (some e, τ) => rfl
theorem doW_none {d : Ad} {W : Wd} {x P P' L q : Addr} {bs : List Int} {τ : AS} (h : doW d W x P P' L bs τ q = none) : q = P ∨ W q = none := by
  unfold doW at h
  by_cases z1 : q = x
  · rw [if_pos z1] at h; cases h
  · rw [if_neg z1] at h
    by_cases z2 : q = P'
    · rw [if_pos z2] at h; cases h
    · rw [if_neg z2] at h
      by_cases z3 : q = L
      · rw [if_pos z3] at h; cases h
      · rw [if_neg z3] at h
        by_cases z4 : q = P
        · exact .inl z4
        · rw [if_neg z4] at h; exact .inr h
theorem mk_Log0 {d : Ad} {e : Env} {W : Wd} {Q : KD} (q : ∀ x, W x = none → Q (.ptr x) (wset W x (logC d [[]] []))) : WE d.K (tMake d.cLog (sp_Log_init d) [] E0 tNil) e W Q :=
  we_make (wa_nil fun x hx => ⟨x, rfl, ws_same, rfl, by rw [ws_ws]; exact q x hx⟩)
section
variable {d : Ad} {vs : List V} {H : Hp} {Q : VK} {E : XK}
theorem pure_Doer_do_all (T : TDoer d) {n : Nat} (h : spN_Doer_do_all (n + 1) d vs H Q E) : t_Doer_do_all n d { nx := fun _ H' => Q .non H', rt := Q } (start N_Doer_do_all vs) H := by
  refine lift_vs h fun ds W Q hp => ?_
  obtain ⟨x, ps, rfl, P, L, bs, σ, m, g, ok, ob, okp, h5, hn, k⟩ := hp
  show WS d.K (t_Doer_do_all n d) [some (.raw (.ref x)), some (.lst (psD d ps)), none, none] W _
  unfold t_Doer_do_all
  walk_at "mgo"
  refine ⟨fun i e W' => ∃ P' τ, doPs bs (ps.take i) σ = (none, τ) ∧ (P' = P ∨ W P' = none) ∧ P' ≠ x ∧ P' ≠ L ∧ e = [some (.raw (.ref x)), some (.lst (psD d ps)), none, none] ∧ W' = doW d W x P P' L bs τ,
    nx_id ⟨P, σ, by rw [List.take_zero, doPs], .inl rfl, g.ne.1.symm, g.ne.2.2, rfl, (doW_id g).symm⟩, fun _ _ _ _ _ => SeqD.lst _, ?_, ?_⟩
  · rintro i u e' W' hi hu ⟨P', τ, h1, h2, h3, h4, rfl, rfl⟩
    obtain ⟨p, hp, rfl⟩ := psD_get hu
    have g2 := doW_at (d := d) (W := W) (x := x) (P := P) (P' := P') (L := L) (bs := bs) (σ := τ) h3 h4 g.ne.2.1
    have gx := g2.hx
    unfold doF at gx
    have okt : OkS τ (m + 1) := by
      have := (okS_doPs ob (ps.take i) (okPs_iff.mpr fun q hq => okPs_iff.mp okp q (List.mem_of_mem_take hq)) ok).1
      rw [h1] at this; exact this
    have okq := okPs_iff.mp okp p (List.mem_of_getElem? hp)
    have nd := ndP_mem hp
    have e2 : doPs bs (ps.take (i + 1)) σ = doP bs p τ := by
      rw [List.take_succ, hp, doPs_app, h1]
      exact doPs_one bs p τ
    walk_at "mgo"
    refine ⟨x, p, rfl, P', L, bs, τ, m, g2, okt, ob, okq, by omega, by omega, fun P2 q1 q2 q3 => ?_⟩
    rw [doW_doW h2]
    have q4 : P2 = P ∨ W P2 = none := by
      rcases q1 with rfl | q1
      · exact h2
      · exact doW_none q1
    generalize hr : doP bs p τ = r at e2
    obtain ⟨e, τ2⟩ := r
    cases e with
    | none =>
      rw [show endD ((none, τ2) : Option AE × AS).1 = .raw .non from rfl]
      walk_at "mgo"
      exact nx_of (by walk_at "le") (Sub.refl _) ⟨P2, τ2, e2, q4, q2, q3, rfl, rfl⟩
    | some e =>
      have e3 : doPs bs ps σ = (some e, τ2) := by
        have : ps = ps.take (i + 1) ++ ps.drop (i + 1) := (List.take_append_drop _ _).symm
        rw [this, doPs_app, e2]
      have nn : ∀ w, endD (some e) ≠ .raw w := fun w z => by cases e <;> cases z
      rw [show endD ((some e, τ2) : Option AE × AS).1 = endD (some e) from rfl]
      walk_at "mgo"
      refine d_notND nn ?_
      walk_at "mgo"
      have := k P2 q4 q2 q3
      rw [e3] at this
      exact ret_dat (Sub.refl _) this
  · rintro e' W' ⟨P', τ, h1, h2, h3, h4, rfl, rfl⟩
    have : (itS (.lst (psD d ps)) (psD d ps)).n = ps.length := psD_len ps
    rw [this, List.take_length] at h1
    walk_at "mgo"
    have := k P' h2 h3 h4
    rw [h1] at this
    exact ret_dat (Sub.refl _) this
theorem pure_Doer_do_part (TP : TParts d) (TW : TWait d) (T : TDoer d) {n : Nat} (h : spN_Doer_do_part (n + 1) d vs H Q E) : t_Doer_do_part n d { nx := fun _ H' => Q .non H', rt := Q } (start N_Doer_do_part vs) H := by
  refine lift_vs h fun ds W Q hp => ?_
  obtain ⟨x, p, rfl, P, L, bs, σ, m, g, ok, ob, okp, h5, hn, k⟩ := hp
  have gx := g.hx
  unfold doF at gx
  show WS d.K (t_Doer_do_part n d) [some (.raw (.ref x)), some (pD d p)] W _
  unfold t_Doer_do_part
  cases p with
  | iff s qs os =>
    have hk : cOf d .iff = d.cIf := rfl
    have c2 : Cls d.K d.cIf := TP.cl .iff
    have m0 : NoAttr d.K d.cIf "slot" := TP.na .iff _ (by simp [atK])
    have m1 : NoAttr d.K d.cIf "parts" := TP.na .iff _ (by simp [atK])
    have m2 : NoAttr d.K d.cIf "others" := TP.na .iff _ (by simp [atK])
    simp only [ndP] at h5 hn
    rw [doP] at k
    rw [pD]
    walk_at "mgo"
    refine ⟨x, s, rfl, P, L, bs, σ, g, ok.ps, okp.1, ?_⟩
    walk_at "mgo"
    walk_at "dec"
    · rename_i hc
      rw [if_pos hc] at k
      walk_at "mgo"
      exact ⟨x, qs, rfl, P, L, bs, σ, m, g, ok, ob, okp.2.1, by omega, by omega, fun P' q1 q2 q3 => ret_dat (Sub.refl _) (k P' q1 q2 q3)⟩
    · rename_i hc
      rw [if_neg (by simpa using hc)] at k
      walk_at "mgo"
      exact ⟨x, os, rfl, P, L, bs, σ, m, g, ok, ob, okp.2.2, by omega, by omega, fun P' q1 q2 q3 => ret_dat (Sub.refl _) (k P' q1 q2 q3)⟩
  | eith qs os =>
    have hk : cOf d .eith = d.cEither := rfl
    rw [pD]
    walk_at "mgo"
    exact ⟨x, qs, os, by rw [pD], P, L, bs, σ, m, g, ok, ob, okp, by omega, by omega, fun P' q1 q2 q3 => ret_dat (Sub.refl _) (k P' q1 q2 q3)⟩
  | tryy qs nm s os =>
    have hk : cOf d .tryy = d.cTry := rfl
    rw [pD]
    walk_at "mgo"
    exact ⟨x, qs, os, nm, s, by rw [pD], P, L, bs, σ, m, g, ok, ob, okp, by omega, by omega, fun P' q1 q2 q3 => ret_dat (Sub.refl _) (k P' q1 q2 q3)⟩
  | throw nm s =>
    have hk : cOf d .throw = d.cThrow := rfl
    have c2 : Cls d.K d.cThrow := TP.cl .throw
    have m0 : NoAttr d.K d.cThrow "slot" := TP.na .throw _ (by simp [atK])
    have m1 : NoAttr d.K d.cThrow "name" := TP.na .throw _ (by simp [atK])
    rw [doP] at k
    rw [pD]
    walk_at "mgo"
    refine ⟨x, s, rfl, P, L, bs, σ, g, ok.ps, okp.2, ?_⟩
    walk_at "mgo"
    have := k P (.inl rfl) g.ne.1.symm g.ne.2.2
    rw [doW_id g] at this
    exact ret_dat (Sub.refl _) this
  | wait =>
    have hk : cOf d .wait = d.cWait := rfl
    rw [doP] at k
    rw [pD]
    walk_at "mgo"
    have := k P (.inl rfl) g.ne.1.symm g.ne.2.2
    rw [doW_id g] at this
    exact ret_dat (Sub.refl _) this
  | let_ s v =>
    have hk : cOf d .let_ = d.cLet := rfl
    rw [doP] at k
    rw [pD]
    walk_at "mgo"
    refine ⟨x, .let_ s v, by rw [pD], P, L, bs, σ, m, g, ok, ob, okp, rfl, ?_⟩
    walk_at "mgo"
    exact ret_dat (Sub.refl _) (k P (.inl rfl) g.ne.1.symm g.ne.2.2)
  | rk w s o t =>
    have hk : cOf d .rk = d.cReckon := rfl
    rw [doP] at k
    rw [pD]
    walk_at "mgo"
    refine ⟨x, .rk w s o t, by rw [pD], P, L, bs, σ, m, g, ok, ob, okp, rfl, ?_⟩
    walk_at "mgo"
    exact ret_dat (Sub.refl _) (k P (.inl rfl) g.ne.1.symm g.ne.2.2)
  | take s p =>
    have hk : cOf d .take = d.cTake := rfl
    rw [doP] at k
    rw [pD]
    walk_at "mgo"
    refine ⟨x, .take s p, by rw [pD], P, L, bs, σ, m, g, ok, ob, okp, rfl, ?_⟩
    walk_at "mgo"
    exact ret_dat (Sub.refl _) (k P (.inl rfl) g.ne.1.symm g.ne.2.2)
  | put p s =>
    have hk : cOf d .put = d.cPut := rfl
    rw [doP] at k
    rw [pD]
    walk_at "mgo"
    refine ⟨x, .put p s, by rw [pD], P, L, bs, σ, m, g, ok, ob, okp, rfl, ?_⟩
    walk_at "mgo"
    exact ret_dat (Sub.refl _) (k P (.inl rfl) g.ne.1.symm g.ne.2.2)
theorem k_none {W W1 : Wd} {K L q P : Addr} {c : Cell} (gK : W1 K = some c) (gL : ∃ c, W1 L = some c) (gO : ∀ b, b ≠ K → b ≠ L → W1 b = W b) (h : q = P ∨ W1 q = none) : q = P ∨ W q = none := by
  rcases h with h | h
  · exact .inl h
  · obtain ⟨c2, gL⟩ := gL
    refine .inr ?_
    rw [← gO q (fun z => by rw [z, gK] at h; cases h) (fun z => by rw [z, gL] at h; cases h)]
    exact h
theorem doW_sub {W W1 : Wd} {x P P1 K L : Addr} {bs : List Int} {τ : AS} (hK : W K = none) (gO : ∀ b, b ≠ K → b ≠ L → W1 b = W b) : Sub (doW d W x P P1 L bs τ) (doW d W1 x P P1 L bs τ) := fun b c h => by
  unfold doW at h ⊢
  by_cases z1 : b = x
  · rw [if_pos z1] at h ⊢; exact h
  · rw [if_neg z1] at h ⊢
    by_cases z2 : b = P1
    · rw [if_pos z2] at h ⊢; exact h
    · rw [if_neg z2] at h ⊢
      by_cases z3 : b = L
      · rw [if_pos z3] at h ⊢; exact h
      · rw [if_neg z3] at h ⊢
        by_cases z4 : b = P
        · rw [if_pos z4] at h; cases h
        · rw [if_neg z4] at h ⊢
          rw [gO b (fun z => by rw [z, hK] at h; cases h) z3]; exact h
theorem doW_sub2 {W W1 : Wd} {x P P1 P2 K L : Addr} {bs : List Int} {τ τ2 : AS} {c0 : Cell} (hK : W K = none) (gO : ∀ b, b ≠ K → b ≠ L → W1 b = W b) (h1 : P1 = P ∨ W P1 = none) : Sub (doW d W x P P2 L bs τ) (doW d (wset (doW d W1 x P P1 L bs τ2) x c0) x K P2 L bs τ) := fun b c h => by
  unfold doW at h ⊢
  by_cases z1 : b = x
  · rw [if_pos z1] at h ⊢; exact h
  · rw [if_neg z1] at h ⊢
    by_cases z2 : b = P2
    · rw [if_pos z2] at h ⊢; exact h
    · rw [if_neg z2] at h ⊢
      by_cases z3 : b = L
      · rw [if_pos z3] at h ⊢; exact h
      · rw [if_neg z3] at h ⊢
        by_cases z4 : b = P
        · rw [if_pos z4] at h; cases h
        · rw [if_neg z4] at h
          have nK : b ≠ K := fun z => by rw [z, hK] at h; cases h
          have n1 : b ≠ P1 := fun z => by
            rcases h1 with h1 | h1
            · exact z4 (z.trans h1)
            · rw [z, h1] at h; cases h
          rw [if_neg nK, ws_ne z1, if_neg z1, if_neg n1, if_neg z3, if_neg z4, gO b nK z3]
          exact h
theorem doW_lg {W : Wd} {x P P1 L : Addr} {bs : List Int} {τ : AS} (h : P1 = P ∨ W P1 = none) (h1 : P1 ≠ x) (h2 : P1 ≠ L) (h3 : x ≠ L) (ts : List Dm) (sn : Dm) : wset (doW d W x P P1 L bs τ) L (logC d ts sn) = doW d W x P P1 L bs { τ with ts := ts, sn := sn } := by
  rw [doW_L (doW_at h1 h2 h3), doW_doW h]
theorem pure_Doer_do_either (TP : TParts d) (T : TDoer d) {n : Nat} (h : spN_Doer_do_either (n + 1) d vs H Q E) : t_Doer_do_either n d { nx := fun _ H' => Q .non H', rt := Q } (start N_Doer_do_either vs) H := by
  refine lift_vs h fun ds W Q hp => ?_
  obtain ⟨x, qs, os, rfl, P, L, bs, σ, m, g, ok, ob, okp, h5, hn, k⟩ := hp
  have c := T.cl
  have n2 := T.n2
  have n3 := T.n3
  have c2 : Cls d.K d.cEither := TP.cl .eith
  have m1 : NoAttr d.K d.cEither "parts" := TP.na .eith _ (by simp [atK])
  have m2 : NoAttr d.K d.cEither "others" := TP.na .eith _ (by simp [atK])
  have gx := g.hx
  have gP := g.hP
  have gL := g.hL
  unfold doF at gx
  simp only [ndP] at h5 hn
  show WS d.K (t_Doer_do_either n d) [some (.raw (.ref x)), some (pD d (.eith qs os)), none, none] W _
  unfold t_Doer_do_either
  rw [pD]
  rw [doP] at k
  walk_at "mgo"
  intro K hK
  refine fz_id ?_
  walk_at "mgo"
  refine ⟨L, σ.ts, σ.sn, rfl, by walk_at "wk", by rw [ok.ln]; omega, ?_⟩
  walk_at "mgo"
  have nL : K ≠ L := ne_w2s hK gL
  have nx : K ≠ x := ne_w2s hK gx
  have nP : K ≠ P := ne_w2s hK gP
  obtain ⟨nxP, nxL, nPL⟩ := g.ne
  have g1 : DoAt d (wset (wset W K (.lst (σ.ps.map D.int))) L (logC d (σ.ts ++ [[]]) σ.sn)) x P L bs ⟨σ.ps, σ.ts ++ [[]], σ.sn⟩ :=
    ⟨by rw [ws_ne nxL, ws_ne nx.symm]; exact g.hx, by rw [ws_ne nPL, ws_ne nP.symm]; exact gP, ws_same⟩
  have gK : wset (wset W K (.lst (σ.ps.map D.int))) L (logC d (σ.ts ++ [[]]) σ.sn) K = some (.lst (σ.ps.map D.int)) := by rw [ws_ne nL, ws_same]
  have gO : ∀ b, b ≠ K → b ≠ L → wset (wset W K (.lst (σ.ps.map D.int))) L (logC d (σ.ts ++ [[]]) σ.sn) b = W b := fun b h1 h2 => by rw [ws_ne h2, ws_ne h1]
  generalize wset (wset W K (.lst (σ.ps.map D.int))) L (logC d (σ.ts ++ [[]]) σ.sn) = W1 at g1 gK gO ⊢
  have gx1 := g1.hx
  unfold doF at gx1
  walk_at "mgo"
  refine ⟨x, qs, rfl, P, L, bs, _, m + 1, g1, ok.push, ob, okp.1, by omega, by omega, fun P1 q1 q2 q3 => ?_⟩
  have okr := okS_doPs ob qs okp.1 ok.push
  have r1 := k_none (P := P) gK ⟨_, g1.hL⟩ gO q1
  generalize doPs bs qs ⟨σ.ps, σ.ts ++ [[]], σ.sn⟩ = r at okr k ⊢
  obtain ⟨e, τ⟩ := r
  have g2 := doW_at (d := d) (W := W1) (x := x) (P := P) (P' := P1) (L := L) (bs := bs) (σ := τ) q2 q3 nxL
  have gx2 := g2.hx
  have gL2 := g2.hL
  unfold doF at gx2
  cases e with
  | none =>
    simp only at k
    obtain ⟨t1, top, e1, l1⟩ := ts_split (n := m + 1) okr.1.ln
    obtain ⟨t0, mm, e2, l2⟩ := ts_split l1
    have k1 := (okr.1.ts top (by simp only at e1 ⊢; rw [e1]; simp)).k.len
    have k2 := (okr.1.ts mm (by simp only at e1 ⊢; rw [e1, e2]; simp)).k.len
    simp only at e1
    rw [show endD ((none, τ) : Option AE × AS).1 = .raw .non from rfl]
    walk_at "mgo"
    refine ⟨L, t0, mm, top, τ.sn, rfl, by rw [← e2, ← e1]; exact gL2, by omega, ?_⟩
    rw [doW_lg q1 q2 q3 nxL]
    walk_at "mgo"
    have := k P1 r1 q2 q3
    rw [e1, e2, settle_eq] at this
    exact ret_dat (doW_sub hK gO) this
  | some e =>
    have nn : ∀ w, endD (some e) ≠ .raw w := fun w z => by cases e <;> cases z
    rw [show endD ((some e, τ) : Option AE × AS).1 = endD (some e) from rfl]
    walk_at "mgo"
    refine d_isND nn ?_
    walk_at "mgo"
    obtain ⟨t0, top, e1, l1⟩ := ts_split (n := m + 1) okr.1.ln
    simp only at e1
    have ed : τ.ts.dropLast = t0 := by rw [e1]; simp
    refine ⟨L, t0, top, τ.sn, rfl, by rw [← e1]; exact gL2, ?_⟩
    rw [doW_lg q1 q2 q3 nxL]
    have g3 := doW_at (d := d) (W := W1) (x := x) (P := P) (P' := P1) (L := L) (bs := bs) (σ := ⟨τ.ps, t0, τ.sn⟩) q2 q3 nxL
    have gx3 := g3.hx
    unfold doF at gx3
    cases e with
    | waits =>
      simp only at k
      rw [ed] at k
      rw [show endD (some .waits) = .tup [.raw (.str "waits")] from rfl]
      walk_at "mgo"
      have nK1 : K ≠ P1 := fun z => by
        rcases q1 with q1 | q1
        · exact nP (z.trans q1)
        · rw [← z, gK] at q1; cases q1
      have g4 : DoAt d (wset (doW d W1 x P P1 L bs ⟨τ.ps, t0, τ.sn⟩) x (.ins d.cDoer (doF bs K L))) x K L bs ⟨σ.ps, t0, τ.sn⟩ :=
        ⟨ws_same, by rw [ws_ne nx]; unfold doW; rw [if_neg nx, if_neg nK1, if_neg nL, if_neg nP]; exact gK, by rw [ws_ne nxL.symm]; exact g3.hL⟩
      have gx4 := g4.hx
      unfold doF at gx4
      show pN_Doer_do_all n d [.raw (.ref x), .lst (psD d os)] (wset (doW d W1 x P P1 L bs ⟨τ.ps, t0, τ.sn⟩) x (.ins d.cDoer (doF bs K L))) _
      have okd := OkS.drop okr.1
      refine ⟨x, os, rfl, K, L, bs, _, m, g4, ⟨ok.ps, ok.nb, by have := okd.ln; simp only [ed] at this; exact this, by have := okd.ts; simp only [ed] at this; exact this, okr.1.sn⟩, ob, okp.2, by omega, by omega, fun P2 s1 s2 s3 => ?_⟩
      refine ret_dat (doW_sub2 hK gO r1) (k P2 ?_ s2 s3)
      rcases s1 with s1 | s1
      · exact .inr (by rw [s1]; exact hK)
      · rw [ws_ne s2] at s1
        rcases doW_none s1 with z | z
        · exact .inl z
        · exact k_none (P := P) gK ⟨_, g1.hL⟩ gO (.inr z)
    | fell nm v =>
      simp only at k
      rw [ed] at k
      rw [show endD (some (.fell nm v)) = .tup [.raw (.str "fell"), .raw (.str nm), .raw (.int v)] from rfl]
      walk_at "mgo"
      exact ret_dat (doW_sub hK gO) (k P1 r1 q2 q3)
theorem pure_Doer_do_try (TP : TParts d) (T : TDoer d) {n : Nat} (h : spN_Doer_do_try (n + 1) d vs H Q E) : t_Doer_do_try n d { nx := fun _ H' => Q .non H', rt := Q } (start N_Doer_do_try vs) H := by
  refine lift_vs h fun ds W Q hp => ?_
  obtain ⟨x, qs, os, nm, s, rfl, P, L, bs, σ, m, g, ok, ob, okp, h5, hn, k⟩ := hp
  have c := T.cl
  have n2 := T.n2
  have n3 := T.n3
  have c2 : Cls d.K d.cTry := TP.cl .tryy
  have m1 : NoAttr d.K d.cTry "parts" := TP.na .tryy _ (by simp [atK])
  have m2 : NoAttr d.K d.cTry "others" := TP.na .tryy _ (by simp [atK])
  have m3 : NoAttr d.K d.cTry "name" := TP.na .tryy _ (by simp [atK])
  have m4 : NoAttr d.K d.cTry "slot" := TP.na .tryy _ (by simp [atK])
  have gx := g.hx
  have gP := g.hP
  have gL := g.hL
  unfold doF at gx
  simp only [ndP] at h5 hn
  show WS d.K (t_Doer_do_try n d) [some (.raw (.ref x)), some (pD d (.tryy qs nm s os)), none, none] W _
  unfold t_Doer_do_try
  rw [pD]
  rw [doP] at k
  walk_at "mgo"
  intro K hK
  refine fz_id ?_
  walk_at "mgo"
  refine ⟨L, σ.ts, σ.sn, rfl, by walk_at "wk", by rw [ok.ln]; omega, ?_⟩
  walk_at "mgo"
  have nL : K ≠ L := ne_w2s hK gL
  have nx : K ≠ x := ne_w2s hK gx
  have nP : K ≠ P := ne_w2s hK gP
  obtain ⟨nxP, nxL, nPL⟩ := g.ne
  have g1 : DoAt d (wset (wset W K (.lst (σ.ps.map D.int))) L (logC d (σ.ts ++ [[]]) σ.sn)) x P L bs ⟨σ.ps, σ.ts ++ [[]], σ.sn⟩ :=
    ⟨by rw [ws_ne nxL, ws_ne nx.symm]; exact g.hx, by rw [ws_ne nPL, ws_ne nP.symm]; exact gP, ws_same⟩
  have gK : wset (wset W K (.lst (σ.ps.map D.int))) L (logC d (σ.ts ++ [[]]) σ.sn) K = some (.lst (σ.ps.map D.int)) := by rw [ws_ne nL, ws_same]
  have gO : ∀ b, b ≠ K → b ≠ L → wset (wset W K (.lst (σ.ps.map D.int))) L (logC d (σ.ts ++ [[]]) σ.sn) b = W b := fun b h1 h2 => by rw [ws_ne h2, ws_ne h1]
  generalize wset (wset W K (.lst (σ.ps.map D.int))) L (logC d (σ.ts ++ [[]]) σ.sn) = W1 at g1 gK gO ⊢
  have gx1 := g1.hx
  unfold doF at gx1
  walk_at "mgo"
  refine ⟨x, qs, rfl, P, L, bs, _, m + 1, g1, ok.push, ob, okp.1, by omega, by omega, fun P1 q1 q2 q3 => ?_⟩
  have okr := okS_doPs ob qs okp.1 ok.push
  have r1 := k_none (P := P) gK ⟨_, g1.hL⟩ gO q1
  generalize doPs bs qs ⟨σ.ps, σ.ts ++ [[]], σ.sn⟩ = r at okr k ⊢
  obtain ⟨e, τ⟩ := r
  have g2 := doW_at (d := d) (W := W1) (x := x) (P := P) (P' := P1) (L := L) (bs := bs) (σ := τ) q2 q3 nxL
  have gx2 := g2.hx
  have gL2 := g2.hL
  unfold doF at gx2
  cases e with
  | none =>
    simp only at k
    obtain ⟨t1, top, e1, l1⟩ := ts_split (n := m + 1) okr.1.ln
    obtain ⟨t0, mm, e2, l2⟩ := ts_split l1
    have k1 := (okr.1.ts top (by simp only at e1 ⊢; rw [e1]; simp)).k.len
    have k2 := (okr.1.ts mm (by simp only at e1 ⊢; rw [e1, e2]; simp)).k.len
    simp only at e1
    rw [show endD ((none, τ) : Option AE × AS).1 = .raw .non from rfl]
    walk_at "mgo"
    refine ⟨L, t0, mm, top, τ.sn, rfl, by rw [← e2, ← e1]; exact gL2, by omega, ?_⟩
    rw [doW_lg q1 q2 q3 nxL]
    walk_at "mgo"
    have := k P1 r1 q2 q3
    rw [e1, e2, settle_eq] at this
    exact ret_dat (doW_sub hK gO) this
  | some e =>
    have nn : ∀ w, endD (some e) ≠ .raw w := fun w z => by cases e <;> cases z
    rw [show endD ((some e, τ) : Option AE × AS).1 = endD (some e) from rfl]
    walk_at "mgo"
    refine d_isND nn ?_
    walk_at "mgo"
    obtain ⟨t0, top, e1, l1⟩ := ts_split (n := m + 1) okr.1.ln
    simp only at e1
    have ed : τ.ts.dropLast = t0 := by rw [e1]; simp
    refine ⟨L, t0, top, τ.sn, rfl, by rw [← e1]; exact gL2, ?_⟩
    rw [doW_lg q1 q2 q3 nxL]
    have g3 := doW_at (d := d) (W := W1) (x := x) (P := P) (P' := P1) (L := L) (bs := bs) (σ := ⟨τ.ps, t0, τ.sn⟩) q2 q3 nxL
    have gx3 := g3.hx
    unfold doF at gx3
    cases e with
    | waits =>
      simp only at k
      rw [ed] at k
      rw [show endD (some .waits) = .tup [.raw (.str "waits")] from rfl]
      walk_at "mgo"
      exact ret_dat (doW_sub hK gO) (k P1 r1 q2 q3)
    | fell mn v =>
      simp only at k
      rw [ed] at k
      rw [show endD (some (.fell mn v)) = .tup [.raw (.str "fell"), .raw (.str mn), .raw (.int v)] from rfl]
      walk_at "mgo"
      walk_at "dec"
      · rename_i hc
        rw [if_neg hc] at k
        walk_at "mgo"
        exact ret_dat (doW_sub hK gO) (k P1 r1 q2 q3)
      · rename_i hc
        rw [if_pos hc] at k
        walk_at "mgo"
        have nK1 : K ≠ P1 := fun z => by
          rcases q1 with q1 | q1
          · exact nP (z.trans q1)
          · rw [← z, gK] at q1; cases q1
        have g4 : DoAt d (wset (doW d W1 x P P1 L bs ⟨τ.ps, t0, τ.sn⟩) x (.ins d.cDoer (doF bs K L))) x K L bs ⟨σ.ps, t0, τ.sn⟩ :=
          ⟨ws_same, by rw [ws_ne nx]; unfold doW; rw [if_neg nx, if_neg nK1, if_neg nL, if_neg nP]; exact gK, by rw [ws_ne nxL.symm]; exact g3.hL⟩
        show p_Doer_give d [.raw (.ref x), .raw (.str s), .raw (.int v)] (wset (doW d W1 x P P1 L bs ⟨τ.ps, t0, τ.sn⟩) x (.ins d.cDoer (doF bs K L))) _
        have okd := OkS.drop okr.1
        have ok4 : OkS ⟨σ.ps, t0, τ.sn⟩ (m + 1) := ⟨ok.ps, ok.nb, by have := okd.ln; simp only [ed] at this; exact this, by have := okd.ts; simp only [ed] at this; exact this, okr.1.sn⟩
        refine ⟨x, s, v, rfl, K, L, bs, _, g4, ok.ps, okp.2.2.1, ?_⟩
        have g5 := g4.w (AS.give ⟨σ.ps, t0, τ.sn⟩ s v)
        have gx5 := g5.hx
        unfold doF at gx5
        walk_at "mgo"
        refine d_mat (MAt.ins gx5 rfl) ?_
        walk_at "mgo"
        refine ⟨x, os, rfl, K, L, bs, _, m, g5, ok4.give s (okr.2 _ _ rfl), ob, okp.2.2.2, by omega, by omega, fun P2 s1 s2 s3 => ?_⟩
        rw [doW_doW (.inl rfl)]
        refine ret_dat (doW_sub2 hK gO r1) (k P2 ?_ s2 s3)
        rcases s1 with s1 | s1
        · exact .inr (by rw [s1]; exact hK)
        · have s1 : doW d (wset (doW d W1 x P P1 L bs ⟨τ.ps, t0, τ.sn⟩) x (.ins d.cDoer (doF bs K L))) x K K L bs (AS.give ⟨σ.ps, t0, τ.sn⟩ s v) P2 = none := s1
          rcases doW_none s1 with z | z
          · exact .inr (by rw [z]; exact hK)
          · rw [ws_ne s2] at z
            rcases doW_none z with z | z
            · exact .inl z
            · exact k_none (P := P) gK ⟨_, g1.hL⟩ gO (.inr z)
theorem pure_Doer_init (T : TDoer d) (h : sp_Doer_init d vs H Q E) : t_Doer_init d { nx := fun _ H' => Q .non H', rt := Q } (start N_Doer_init vs) H := by
  refine lift_vs h fun ds W Q hp => ?_
  obtain ⟨x, a, b, rfl, bs, ps, hx, ha, hb, k⟩ := hp
  have c := T.cl
  have n1 := T.n1
  have n2 := T.n2
  have n3 := T.n3
  show WS d.K (t_Doer_init d) [some (.raw (.ref x)), some a, some b] W _
  unfold t_Doer_init
  walk_at "mgo"
  refine d_listF (ha.er Sub.wer) ?_
  walk_at "dat"
  refine d_listF (sd_wx hb) ?_
  intro P hP
  refine fz_id ?_
  walk_at "mgo"
  refine mk_Log0 fun L hL => ?_
  have h1 : P ≠ x := (ne_w ws_same hP).symm
  have hP' := ws_non hP
  have h2 : L ≠ x := (ne_w ws_same hL).symm
  have h3 : P ≠ L := ne_w (ws_lk h1 ws_same) hL
  have hL' := ws_non (ws_non (ws_non hL))
  walk_at "mgo"
  refine sub_q (fun b c q => ?_) (k P L hP' hL' h3)
  by_cases z1 : b = x
  · rw [z1, ws_same] at q ⊢; exact q
  · rw [ws_ne z1] at q ⊢
    by_cases z2 : b = L
    · rw [z2, ws_same] at q ⊢; exact q
    · rw [ws_ne z2] at q ⊢
      rw [ws_ne z1]
      by_cases z3 : b = P
      · rw [z3, ws_same] at q ⊢; exact q
      · rw [ws_ne z3] at q ⊢
        rw [ws_ne z1]; exact q
theorem sub_none {W W' : Wd} {q : Addr} (m : Sub W W') (h : W' q = none) : W q = none := by
  cases e : W q with
  | none => rfl
  | some c => have := m q c e; rw [h] at this; cases this
theorem pure_alone (T : TDoer d) (h : sp_alone d vs H Q E) : t_alone d { nx := fun _ H' => Q .non H', rt := Q } (start N_alone vs) H := by
  refine lift_vs h fun ds W Q hp => ?_
  obtain ⟨ps, a, b, rfl, bs, qs, ha, hb, ob, h8, hq, okp, hn, k⟩ := hp
  have c := T.cl
  have n2 := T.n2
  have n3 := T.n3
  show WS d.K (t_alone d) [some (.lst (psD d ps)), some a, some b, none, none] W _
  unfold t_alone
  walk_at "mgo"
  refine we_make ?_
  walk_at "mgo"
  intro x hx
  refine ⟨x, a, b, rfl, bs, qs, ws_same, sd_new ha hx, sd_new hb hx, fun P L hP hL hPL => ⟨rfl, ?_⟩⟩
  have h1 : P ≠ x := (ne_w ws_same hP).symm
  have h2 : L ≠ x := (ne_w ws_same hL).symm
  have hP' := ws_non hP
  have hL' := ws_non hL
  have g : DoAt d (wset (wset (wset (wset W x (.ins d.cDoer [])) P (.lst (qs.map D.int))) L (logC d [[]] [])) x (.ins d.cDoer (doF bs P L))) x P L bs ⟨qs, [[]], []⟩ :=
    ⟨ws_same, by rw [ws_ne h1, ws_ne hPL, ws_same], by rw [ws_ne h2, ws_same]⟩
  have sW : Sub W (wset (wset (wset (wset W x (.ins d.cDoer [])) P (.lst (qs.map D.int))) L (logC d [[]] [])) x (.ins d.cDoer (doF bs P L))) :=
    Sub.new (Sub.new (Sub.new (Sub.new (Sub.refl _) hx) hP') hL') hx
  generalize wset (wset (wset (wset W x (.ins d.cDoer [])) P (.lst (qs.map D.int))) L (logC d [[]] [])) x (.ins d.cDoer (doF bs P L)) = W1 at g sW ⊢
  have gx := g.hx
  unfold doF at gx
  walk_at "mgo"
  have ok0 : OkS ⟨qs, [[]], []⟩ 1 := ⟨h8, hq, rfl, fun t ht => by rw [List.mem_singleton.mp ht]; exact .nil, .nil⟩
  refine ⟨x, ps, rfl, P, L, bs, _, 0, g, ok0, ob, okp, by omega, by omega, fun P2 q1 q2 q3 => ?_⟩
  have okr := okS_doPs ob ps okp ok0
  generalize hr : doPs bs ps ⟨qs, [[]], []⟩ = r at okr
  obtain ⟨e, τ⟩ := r
  have g2 := doW_at (d := d) (W := W1) (x := x) (P := P) (P' := P2) (L := L) (bs := bs) (σ := τ) q2 q3 g.ne.2.1
  have s2 : Sub W (doW d W1 x P P2 L bs τ) := fun b c q => by
    have z1 : b ≠ x := ne_w q hx
    have z2 : b ≠ P := ne_w q hP'
    have z3 : b ≠ L := ne_w q hL'
    have z4 : b ≠ P2 := by
      rcases q1 with q1 | q1
      · rw [q1]; exact z2
      · exact ne_w q (sub_none sW q1)
    unfold doW
    rw [if_neg z1, if_neg z4, if_neg z3, if_neg z2]
    exact sW b c q
  show WG d.K _ (endD e) _ (doW d W1 x P P2 L bs τ) _
  generalize doW d W1 x P P2 L bs τ = W2 at g2 s2 ⊢
  have gx2 := g2.hx
  have gP2 := g2.hP
  have gL2 := g2.hL
  unfold doF at gx2
  have ls := okr.1.sn.k.len
  obtain ⟨t0, t, et, lt⟩ := ts_split (n := 0) okr.1.ln
  have lt' : t0 = [] := List.length_eq_zero_iff.mp lt
  subst lt'
  simp only [List.nil_append] at et
  have lt2 := (okr.1.ts t (by simp only; rw [et]; simp)).k.len
  simp only at ls et
  have kk := fun r => k r e τ hr
  cases e with
  | none =>
    rw [show endD none = .raw .non from rfl]
    walk_at "mgo"
    refine ⟨L, τ.ts, τ.sn, rfl, gL2, by omega, fun u hu => ?_⟩
    walk_at "mgo"
    refine ⟨L, t, [], τ.sn, rfl, by rw [ws_ne (ne_w gL2 hu), ← et]; exact gL2, by omega, fun v hv => ?_⟩
    walk_at "mgo"
    intro w hw
    refine fz_id ?_
    walk_at "mgo"
    have e1 : τ.ts.getLastD [] = t := by rw [et]; rfl
    simp only [e1] at kk
    exact ret_dat (s2.set.set.set) (kk _ u v w (sub_none s2 hu) (sub_none s2.set hv) (sub_none s2.set.set hw) rfl)
  | some e =>
    have nn : ∀ w, endD (some e) ≠ .raw w := fun w z => by cases e <;> cases z
    walk_at "mgo"
    refine d_isND nn ?_
    walk_at "mgo"
    refine ⟨L, τ.ts, τ.sn, rfl, gL2, by omega, fun u hu => ?_⟩
    walk_at "mgo"
    intro v hv
    refine fz_id ?_
    walk_at "mgo"
    refine d_listF ((hb.er s2).er (Sub.new (Sub.new (Sub.refl _) hu) (ws_non hv))) ?_
    intro w hw
    refine fz_id ?_
    walk_at "mgo"
    exact ret_dat (s2.set.set.set) (kk _ u v w (sub_none s2 hu) (sub_none s2.set hv) (sub_none s2.set.set hw) rfl)
end
end
set_option Elab.async false
set_option linter.all false
set_option maxRecDepth 100000
set_option maxHeartbeats 400000
set_option autoImplicit false
section
open PySem L2
mutual
def goP (bs : List Int) : Pt → AS → Option AE × AS
  | .iff s ps os, σ => if lk σ s ≠ 0 then goPs bs ps σ else goPs bs os σ
  | .eith ps os, σ =>
    match goPs bs ps σ with
    | (some .waits, τ) => goPs bs os ⟨σ.ps, σ.ts, τ.sn⟩
    | r => r
  | .tryy ps n s os, σ =>
    match goPs bs ps σ with
    | (some (.fell m v), τ) => if m = n then goPs bs os (AS.give ⟨σ.ps, σ.ts, τ.sn⟩ s v) else (some (.fell m v), τ)
    | r => r
  | .throw n s, σ => (some (.fell n (lk σ s)), σ)
  | .wait, σ => (some .waits, σ)
  | .let_ s n, σ => (none, plainS bs (.let_ s n) σ)
  | .rk w s o t, σ => (none, plainS bs (.rk w s o t) σ)
  | .take s p, σ => (none, plainS bs (.take s p) σ)
  | .put p s, σ => (none, plainS bs (.put p s) σ)
def goPs (bs : List Int) : List Pt → AS → Option AE × AS
  | [], σ => (none, σ)
  | p :: r, σ => match goP bs p σ with
    | (none, τ) => goPs bs r τ
    | (some e, τ) => (some e, τ)
end
theorem okS_one {σ : AS} (h : OkS σ 1) : ∃ t, σ.ts = [t] := by
  obtain ⟨t0, t, e, l⟩ := ts_split (n := 0) h.ln
  have : t0 = [] := List.length_eq_zero_iff.mp l
  subst this
  exact ⟨t, e⟩
theorem ownM_snoc (t0 : List Dm) (t : Dm) (k : Int) : ownM (t0 ++ [t]) k = match dget t k with | some v => some v | none => ownM t0 k := by
  unfold ownM
  rw [List.reverse_append, List.reverse_singleton, List.singleton_append, List.findSome?_cons]
  cases dget t k <;> rfl
theorem ownM_nil (k : Int) : ownM [] k = none := rfl
theorem ownM_one (t : Dm) (k : Int) : ownM [t] k = dget t k := by
  have := ownM_snoc [] t k
  rw [List.nil_append] at this
  rw [this, ownM_nil]
  cases dget t k <;> rfl
theorem dget_putAll : ∀ (top m : Dm) (k : Int), (keysM top).Nodup → dget (putAll m top) k = match dget top k with | some v => some v | none => dget m k
  | [], m, k, _ => rfl
  | p :: r, m, k, nd => by
    have nd2 := List.nodup_cons.mp nd
    show dget (putAll (dput m p.1 p.2) r) k = _
    rw [dget_putAll r _ k nd2.2, dget_put]
    by_cases e : p.1 = k
    · rw [dget_pos e]
      have : dget r k = none := by
        cases z : dget r k with
        | none => rfl
        | some v =>
          exfalso
          apply nd2.1
          have q := dget_any k r
          rw [z] at q
          obtain ⟨x, hx, hk⟩ := List.any_eq_true.mp q
          show p.1 ∈ List.map (fun x => x.1) r
          rw [e, ← of_decide_eq_true hk]
          exact List.mem_map_of_mem hx
      rw [this, if_pos e.symm]
    · rw [dget_neg e, if_neg (fun z => e z.symm)]
structure Rl (σ τ : AS) : Prop where
  ps : τ.ps = σ.ps
  sn : τ.sn = σ.sn
  ow : ∀ k, ownM τ.ts k = ownM σ.ts k
structure Sim (r s : Option AE × AS) (D : List Dm) (n : Nat) : Prop where
  e : s.1 = r.1
  sn : s.2.sn = r.2.sn
  ok : OkS s.2 1
  okr : EndOk r n
  dl : r.2.ts.dropLast = D
  rl : r.1 = none → Rl r.2 s.2
theorem Rl.give {σ τ : AS} (h : Rl σ τ) (s : Str) (v : Int) : Rl (σ.give s v) (τ.give s v) := ⟨by show τ.ps.set _ _ = σ.ps.set _ _; rw [h.ps], h.sn, h.ow⟩
theorem Rl.lk {σ τ : AS} (h : Rl σ τ) (s : Str) : RT.lk τ s = RT.lk σ s := by unfold RT.lk; rw [h.ps]
theorem Rl.push {σ τ : AS} (h : Rl σ τ) : Rl { σ with ts := σ.ts ++ [[]] } τ := ⟨h.ps, h.sn, fun k => by
  rw [h.ow k]
  show _ = ownM (σ.ts ++ [[]]) k
  rw [ownM_snoc]; rfl⟩
theorem Rl.plain {bs : List Int} {σ τ : AS} {n : Nat} (h : Rl σ τ) (o1 : OkS σ (n + 1)) (o2 : OkS τ 1) (p : Pt) : Rl (plainS bs p σ) (plainS bs p τ) ∧ (plainS bs p σ).ts.dropLast = σ.ts.dropLast := by
  cases p with
  | let_ s v => exact ⟨h.give s v, rfl⟩
  | rk w s o t => exact ⟨by show Rl (σ.give _ _) (τ.give _ _); rw [h.lk, h.lk]; exact h.give _ _, rfl⟩
  | take s p =>
    show Rl (takeS bs σ s p) (takeS bs τ s p) ∧ (takeS bs σ s p).ts.dropLast = _
    unfold takeS
    simp only
    have e : bxAt bs τ p = bxAt bs σ p := by unfold bxAt; rw [h.lk]
    rw [e, h.ow]
    cases ownM σ.ts (bxAt bs σ p) with
    | some v => exact ⟨h.give _ _, rfl⟩
    | none =>
      refine ⟨?_, rfl⟩
      simp only
      refine Rl.give (σ := ⟨σ.ps, σ.ts, dput σ.sn (bxAt bs σ p) (bs.getD (bxAt bs σ p).toNat 0)⟩) (τ := ⟨τ.ps, τ.ts, dput τ.sn (bxAt bs σ p) (bs.getD (bxAt bs σ p).toNat 0)⟩) ⟨h.ps, ?_, h.ow⟩ _ _
      simp only [h.sn]
  | put p s =>
    show Rl { σ with ts := topPut σ.ts (bxAt bs σ p) (RT.lk σ s) } { τ with ts := topPut τ.ts (bxAt bs τ p) (RT.lk τ s) } ∧ (topPut σ.ts (bxAt bs σ p) (RT.lk σ s)).dropLast = _
    have e : bxAt bs τ p = bxAt bs σ p := by unfold bxAt; rw [h.lk]
    rw [e, h.lk]
    obtain ⟨t0, t, et, l⟩ := ts_split o1.ln
    obtain ⟨u, eu⟩ := okS_one o2
    have ow := h.ow
    rw [et, eu] at ow
    refine ⟨⟨h.ps, h.sn, fun k => ?_⟩, ?_⟩
    · show ownM (topPut τ.ts _ _) k = ownM (topPut σ.ts _ _) k
      rw [et, eu]
      unfold topPut
      rw [show ([u] : List Dm).dropLast ++ [dput (([u] : List Dm).getLastD []) (bxAt bs σ p) (RT.lk σ s)] = [dput u (bxAt bs σ p) (RT.lk σ s)] from rfl, ownM_one,
        show (t0 ++ [t]).dropLast = t0 from by simp, show (t0 ++ [t]).getLastD [] = t from by simp, ownM_snoc, dget_put, dget_put]
      have := ow k
      rw [ownM_one, ownM_snoc] at this
      by_cases z : k = bxAt bs σ p
      · rw [if_pos z, if_pos z]
      · rw [if_neg z, if_neg z]; exact this
    · rw [et]
      unfold topPut
      simp
  | _ => exact ⟨h, rfl⟩
theorem ts_dl {σ : AS} {n : Nat} (h : OkS σ (n + 1)) {t0 : List Dm} (e : σ.ts.dropLast = t0) : ∃ t, σ.ts = t0 ++ [t] ∧ DmOk t := by
  obtain ⟨a, t, et, l⟩ := ts_split h.ln
  rw [et] at e
  rw [show (a ++ [t]).dropLast = a from by simp] at e
  subst e
  exact ⟨t, et, h.ts t (by rw [et]; simp)⟩
theorem rl_settle {σ r s : AS} {n : Nat} (o : OkS σ (n + 1)) (o2 : OkS r (n + 2)) (dl : r.ts.dropLast = σ.ts) (h : Rl r s) : Rl { r with ts := settleT r.ts } s ∧ (settleT r.ts).dropLast = σ.ts.dropLast := by
  obtain ⟨t, et, ok⟩ := ts_dl (n := n + 1) o2 dl
  obtain ⟨t0, m, em, l⟩ := ts_split o.ln
  rw [em] at et ⊢
  rw [et, settle_eq]
  refine ⟨⟨h.ps, h.sn, fun k => ?_⟩, by simp⟩
  show ownM s.ts k = ownM (t0 ++ [putAll m t]) k
  rw [h.ow, et, ownM_snoc, ownM_snoc, ownM_snoc, dget_putAll _ _ _ ok.k.nd]
  cases dget t k <;> rfl
mutual
theorem simP {bs : List Int} (ob : OkB bs) : ∀ (p : Pt) {σ τ : AS} {n : Nat}, okP p → OkS σ (n + 1) → OkS τ 1 → Rl σ τ → Sim (doP bs p σ) (goP bs p τ) σ.ts.dropLast (n + 1)
  | .iff s ps os, σ, τ, n, ok, o1, o2, h => by
    rw [doP, goP, h.lk]
    by_cases z : lk σ s ≠ 0
    · rw [if_pos z, if_pos z]; exact simPs ob ps ok.2.1 o1 o2 h
    · rw [if_neg z, if_neg z]; exact simPs ob os ok.2.2 o1 o2 h
  | .eith ps os, σ, τ, n, ok, o1, o2, h => by
    rw [doP, goP]
    have s := simPs ob ps (σ := { σ with ts := σ.ts ++ [[]] }) ok.1 o1.push o2 h.push
    rw [show ({ σ with ts := σ.ts ++ [[]] } : AS).ts.dropLast = σ.ts from by simp] at s
    generalize doPs bs ps { σ with ts := σ.ts ++ [[]] } = r at s
    generalize goPs bs ps τ = q at s
    obtain ⟨re, r⟩ := r
    obtain ⟨qe, q⟩ := q
    obtain ⟨h1, h2, h3, h4, h5, h6⟩ := s
    simp only at h1 h2 h3 h5 h6
    subst h1
    match qe with
    | none =>
      have := rl_settle o1 h4.1 h5 (h6 rfl)
      exact ⟨rfl, h2, h3, ⟨h4.1.settle, fun m v e => by cases e⟩, this.2, fun _ => this.1⟩
    | some .waits =>
      have e : r.ts.dropLast = σ.ts := h5
      simp only
      rw [e]
      refine simPs ob os (σ := ⟨σ.ps, σ.ts, r.sn⟩) (τ := ⟨τ.ps, τ.ts, q.sn⟩) ok.2 ⟨o1.ps, o1.nb, o1.ln, o1.ts, h4.1.sn⟩ ⟨o2.ps, o2.nb, o2.ln, o2.ts, h3.sn⟩ ⟨h.ps, h2, h.ow⟩
    | some (.fell m v) => exact ⟨rfl, h2, h3, ⟨h4.1.drop, h4.2⟩, by show r.ts.dropLast.dropLast = _; rw [h5], fun e => by cases e⟩
  | .tryy ps m s os, σ, τ, n, ok, o1, o2, h => by
    rw [doP, goP]
    have s := simPs ob ps (σ := { σ with ts := σ.ts ++ [[]] }) ok.1 o1.push o2 h.push
    rw [show ({ σ with ts := σ.ts ++ [[]] } : AS).ts.dropLast = σ.ts from by simp] at s
    generalize doPs bs ps { σ with ts := σ.ts ++ [[]] } = r at s
    generalize goPs bs ps τ = q at s
    obtain ⟨re, r⟩ := r
    obtain ⟨qe, q⟩ := q
    obtain ⟨h1, h2, h3, h4, h5, h6⟩ := s
    simp only at h1 h2 h3 h5 h6
    subst h1
    match qe with
    | none =>
      have := rl_settle o1 h4.1 h5 (h6 rfl)
      exact ⟨rfl, h2, h3, ⟨h4.1.settle, fun m v e => by cases e⟩, this.2, fun _ => this.1⟩
    | some .waits => exact ⟨rfl, h2, h3, ⟨h4.1.drop, fun m v e => by cases e⟩, by show r.ts.dropLast.dropLast = _; rw [h5], fun e => by cases e⟩
    | some (.fell k v) =>
      have e : r.ts.dropLast = σ.ts := h5
      simp only
      by_cases z : k = m
      · rw [if_pos z, if_pos z, e]
        have nv := h4.2 _ _ rfl
        exact simPs ob os (σ := AS.give ⟨σ.ps, σ.ts, r.sn⟩ s v) (τ := AS.give ⟨τ.ps, τ.ts, q.sn⟩ s v) ok.2.2.2 (OkS.give (σ := ⟨σ.ps, σ.ts, r.sn⟩) ⟨o1.ps, o1.nb, o1.ln, o1.ts, h4.1.sn⟩ s nv) (OkS.give (σ := ⟨τ.ps, τ.ts, q.sn⟩) ⟨o2.ps, o2.nb, o2.ln, o2.ts, h3.sn⟩ s nv) (Rl.give (σ := ⟨σ.ps, σ.ts, r.sn⟩) (τ := ⟨τ.ps, τ.ts, q.sn⟩) ⟨h.ps, h2, h.ow⟩ s v)
      · rw [if_neg z, if_neg z]
        exact ⟨rfl, h2, h3, ⟨h4.1.drop, h4.2⟩, by show r.ts.dropLast.dropLast = _; rw [h5], fun e => by cases e⟩
  | .throw m s, σ, τ, n, ok, o1, o2, h => by
    rw [doP, goP, h.lk]
    exact ⟨rfl, h.sn, o2, ⟨o1, fun m v e => by cases e; exact o1.lkN ok.2⟩, rfl, fun e => by cases e⟩
  | .wait, σ, τ, n, ok, o1, o2, h => by
    rw [doP, goP]
    exact ⟨rfl, h.sn, o2, ⟨o1, fun m v e => by cases e⟩, rfl, fun e => by cases e⟩
  | .let_ s m, σ, τ, n, ok, o1, o2, h => by
    rw [doP, goP]
    have r := h.plain (bs := bs) o1 o2 (.let_ s m)
    exact ⟨rfl, r.1.sn, o2.plain (p := .let_ s m) ob ok, ⟨o1.plain (p := .let_ s m) ob ok, fun m v e => by cases e⟩, r.2, fun _ => r.1⟩
  | .rk w s o t, σ, τ, n, ok, o1, o2, h => by
    rw [doP, goP]
    have r := h.plain (bs := bs) o1 o2 (.rk w s o t)
    exact ⟨rfl, r.1.sn, o2.plain (p := .rk w s o t) ob ok, ⟨o1.plain (p := .rk w s o t) ob ok, fun m v e => by cases e⟩, r.2, fun _ => r.1⟩
  | .take s p, σ, τ, n, ok, o1, o2, h => by
    rw [doP, goP]
    have r := h.plain (bs := bs) o1 o2 (.take s p)
    exact ⟨rfl, r.1.sn, o2.plain (p := .take s p) ob ok, ⟨o1.plain (p := .take s p) ob ok, fun m v e => by cases e⟩, r.2, fun _ => r.1⟩
  | .put p s, σ, τ, n, ok, o1, o2, h => by
    rw [doP, goP]
    have r := h.plain (bs := bs) o1 o2 (.put p s)
    exact ⟨rfl, r.1.sn, o2.plain (p := .put p s) ob ok, ⟨o1.plain (p := .put p s) ob ok, fun m v e => by cases e⟩, r.2, fun _ => r.1⟩
theorem simPs {bs : List Int} (ob : OkB bs) : ∀ (ps : List Pt) {σ τ : AS} {n : Nat}, okPs ps → OkS σ (n + 1) → OkS τ 1 → Rl σ τ → Sim (doPs bs ps σ) (goPs bs ps τ) σ.ts.dropLast (n + 1)
  | [], σ, τ, n, ok, o1, o2, h => by rw [doPs, goPs]; exact ⟨rfl, h.sn, o2, ⟨o1, fun m v e => by cases e⟩, rfl, fun _ => h⟩
  | p :: t, σ, τ, n, ok, o1, o2, h => by
    rw [doPs, goPs]
    have s := simP ob p ok.1 o1 o2 h
    generalize doP bs p σ = r at s
    generalize goP bs p τ = q at s
    obtain ⟨re, r⟩ := r
    obtain ⟨qe, q⟩ := q
    obtain ⟨h1, h2, h3, h4, h5, h6⟩ := s
    simp only at h1 h2 h3 h5 h6
    subst h1
    match qe with
    | none =>
      have := simPs ob t ok.2 h4.1 h3 (h6 rfl)
      rw [h5] at this
      exact this
    | some e => exact ⟨rfl, h2, h3, h4, h5, h6⟩
end
theorem bx_own {a b : Dm} (ha : KeysOk a) (hb : KeysOk b) (h : ∀ k, dget a k = dget b k) : bx a = bx b := by
  rw [bx_range ha, bx_range hb]
  simp only [h]
theorem go_told {bs qs : List Int} {ps : List Pt} (ob : OkB bs) (ok : okPs ps) (h8 : qs.length = 8) (hq : ∀ v ∈ qs, Nm v) {e : Option AE} {τ : AS} {e2 : Option AE} {ρ : AS} (h1 : doPs bs ps ⟨qs, [[]], []⟩ = (e, τ)) (h2 : goPs bs ps ⟨qs, [[]], []⟩ = (e2, ρ)) :
    e2 = e ∧ ρ.sn = τ.sn ∧ OkS τ 1 ∧ OkS ρ 1 ∧ (e = none → ρ.ps = τ.ps ∧ bxD (ρ.ts.getLastD []) = bxD (τ.ts.getLastD [])) ∧ ∀ m v, e = some (.fell m v) → Nm v := by
  have ok0 : OkS ⟨qs, [[]], []⟩ 1 := ⟨h8, hq, rfl, fun t ht => by rw [List.mem_singleton.mp ht]; exact .nil, .nil⟩
  have s := simPs (bs := bs) ob ps (n := 0) ok ok0 ok0 ⟨rfl, rfl, fun _ => rfl⟩
  rw [h1, h2] at s
  obtain ⟨a, b, c, d, f, g⟩ := s
  refine ⟨a, b, d.1, c, fun z => ⟨(g z).ps, ?_⟩, d.2⟩
  have ow := (g z).ow
  obtain ⟨t, et⟩ := okS_one d.1
  obtain ⟨u, eu⟩ := okS_one c
  simp only at et eu ow
  rw [et, eu] at ow ⊢
  show bxD u = bxD t
  unfold bxD
  rw [bx_own (c.ts u (by simp [eu])).k (d.1.ts t (by simp [et])).k (fun k => by have := ow k; rwa [ownM_one, ownM_one] at this)]
end
set_option Elab.async false
set_option linter.all false
set_option maxRecDepth 100000
set_option maxHeartbeats 400000
set_option autoImplicit false
section
open PySem L2
section
open PySem.Spec PyProof.Rows
abbrev rDCopy : List V → Hp → VK → Prop := fun xs H Q => ∃ a kvs, xs = [.ref a] ∧ Rd H a (.dK kvs) ∧ ∀ p, H p = none → Q (.ref p) (upd H p (.dK kvs))
theorem call_dcopy {X : Cx} : CallR X (.type "dict") rDCopy := by
  intro pins s σ H xs us Q I r h
  obtain ⟨a, kvs, e, hk, q⟩ := h
  subst e
  obtain ⟨u, eu, rx⟩ := vals1 r
  subst eu
  obtain rfl : u = Value.ref a := rx
  obtain ⟨z, lo, vs, rk, hd⟩ := dk_rd I.hok hk
  have hl : kvs.length = vs.length := Paired.length rk
  refine kt_call_dict (knd := mixKind X.prog X.w) lo hd (by rw [← hl]; exact z) fun h' hd' hs => ?_
  have hm : (s.heap.objs.size == sysModules) = false := beq_eq_false_iff_ne.mpr (Nat.ne_of_gt I.big)
  refine ⟨.ref s.heap.objs.size, upd H s.heap.objs.size (.dK kvs), I.laid (t' := s.toks) (fun b o' e => ?_) (Nat.le_refl _) (show ObjOk X.prog X.w _ _ _ (.dK kvs) from ⟨z, hm, vs, rk, hd'⟩), rfl, q _ (I.hok.fresh (Nat.le_refl _))⟩
  rw [hs.2 b (Nat.ne_of_lt (Heap.lt_size e))]
  exact Heap.get?_push_of_some _ e
end
local macro_rules | `(tactic| walk_at "sc") => `(tactic| first | assumption | decide | omega | (unfold CMul; omega) | (unfold CDiv; omega) | (unfold CPow; decide) | (unfold CDiv; decide))
local macro_rules | `(tactic| walk_at "go") => `(tactic| (repeat (first | walk_at "step" | walk_at "callx")))
local macro_rules | `(tactic| walk_at "len") => `(tactic| first
  | (obtain ⟨rfl, _⟩ := h; rfl) | (obtain ⟨_, rfl, _⟩ := h; rfl) | (obtain ⟨_, _, rfl, _⟩ := h; rfl) | (obtain ⟨_, _, _, rfl, _⟩ := h; rfl) | (obtain ⟨_, _, _, _, rfl, _⟩ := h; rfl)
  | (obtain ⟨_, _, _, _, _, rfl, _⟩ := h; rfl) | (obtain ⟨_, _, _, _, _, _, rfl, _⟩ := h; rfl) | (obtain ⟨_, _, _, _, _, _, _, rfl, _⟩ := h; rfl) | (obtain ⟨_, _, _, _, _, _, _, _, rfl, _⟩ := h; rfl)
  | (obtain ⟨_, _, _, _, _, _, _, _, _, rfl, _⟩ := h; rfl) | (obtain ⟨_, _, _, _, _, _, _, _, _, _, rfl, _⟩ := h; rfl))
local macro_rules | `(tactic| walk_at "sd") => `(tactic| first | with_reducible assumption | with_reducible exact SeqD.lst _ | with_reducible exact SeqD.scr _ | ((with_reducible refine' SeqD.own ?h); (case h => walk_at "wk")) | ((with_reducible refine' SeqD.er ?m ?h); (case h => with_reducible assumption); (case m => walk_at "sub")))
local macro_rules | `(tactic| walk_at "cd") => `(tactic| first | with_reducible assumption | with_reducible exact CatD.lst _ | ((with_reducible refine' CatD.own ?h); (case h => walk_at "wk")))
local macro_rules | `(tactic| walk_at "le") => `(tactic| repeat (first | exact EnvLe.nil | exact EnvLe.refl _ | with_reducible refine' EnvLe.cons (.inl rfl) ?_ | with_reducible refine' EnvLe.cons (.inr rfl) ?_))
theorem d_dcopy {K : PySem.W.Frag} {W : Wd} {x : D} {Q : KD} {q : List (Key × D)} (h : DctD W x q) (k : ∀ p, W p = none → Q (.ptr p) (wset W p (.dct q))) : RC K rDCopy [x] W Q := fun B H vs kk s r hk => by
  cases r with
  | cons r1 r2 =>
    cases r2
    obtain ⟨a, kvs, rfl, g1, g2⟩ := dct_sem s r1 h
    exact ⟨a, kvs, rfl, g1, fun p hp => hk _ _ _ _ _ (Evl.Ex.refl _) (s.new hp (.dct g2)) (.raw _) (k p (s.nnone hp))⟩
mutual
inductive AtP (W : Wd) : D → PyData → Prop
  | id {d : D} {p : PyData} (h : pyD d = some p) : AtP W d p
  | own {a : Addr} {ds : List D} {ps : List PyData} (h : W a = some (.lst ds)) (hs : AtPs W ds ps) : AtP W (.raw (.ref a)) (.list ps)
  | lst {ds : List D} {ps : List PyData} (hs : AtPs W ds ps) : AtP W (.lst ds) (.list ps)
  | tup {ds : List D} {ps : List PyData} (hs : AtPs W ds ps) : AtP W (.tup ds) (.tuple ps)
inductive AtPs (W : Wd) : List D → List PyData → Prop
  | nil : AtPs W [] []
  | cons {d : D} {p : PyData} {ds : List D} {ps : List PyData} (h : AtP W d p) (hs : AtPs W ds ps) : AtPs W (d :: ds) (p :: ps)
end
mutual
theorem at_p {K : PySem.W.Frag} {B H : Hp} {W : Wd} (s : Sta K B W H) : ∀ {x : D} {p : PyData} {v : V}, AtP W x p → Rep K B v x → Dp K H v p
  | _, _, _, .id h, r => rep_dp s.ex r h
  | _, _, _, .own h hs, r => by
    cases r
    obtain ⟨xs, h1, h2⟩ := s.lst h
    exact .lst (SqL.of h1) (at_ps s hs h2)
  | _, _, _, .lst hs, r => by
    cases r with
    | lst h1 h2 => exact .lst (SqL.of (s.ex _ _ h1)) (at_ps s hs h2)
  | _, _, _, .tup hs, r => by
    cases r with
    | tup h1 h2 => exact .tup (ex_st s.ex h1) (at_ps s hs h2)
theorem at_ps {K : PySem.W.Frag} {B H : Hp} {W : Wd} (s : Sta K B W H) : ∀ {xs : List D} {ps : List PyData} {vs : List V}, AtPs W xs ps → Reps K B vs xs → DpAll K H vs ps
  | _, _, _, .nil, r => by cases r; exact .nil
  | _, _, _, .cons h hs, r => by
    cases r with
    | cons r1 r2 => exact .cons (at_p s h r1) (at_ps s hs r2)
end
end
set_option Elab.async false
set_option linter.all false
set_option maxRecDepth 100000
set_option maxHeartbeats 400000
set_option autoImplicit false
section
open PySem L2
local macro_rules | `(tactic| walk_at "sc") => `(tactic| first | assumption | decide | omega | (unfold CMul; omega) | (unfold CDiv; omega) | (unfold CPow; decide) | (unfold CDiv; decide))
local macro_rules | `(tactic| walk_at "go") => `(tactic| (repeat (first | walk_at "step" | walk_at "callx")))
local macro_rules | `(tactic| walk_at "len") => `(tactic| first
  | (obtain ⟨rfl, _⟩ := h; rfl) | (obtain ⟨_, rfl, _⟩ := h; rfl) | (obtain ⟨_, _, rfl, _⟩ := h; rfl) | (obtain ⟨_, _, _, rfl, _⟩ := h; rfl) | (obtain ⟨_, _, _, _, rfl, _⟩ := h; rfl)
  | (obtain ⟨_, _, _, _, _, rfl, _⟩ := h; rfl) | (obtain ⟨_, _, _, _, _, _, rfl, _⟩ := h; rfl) | (obtain ⟨_, _, _, _, _, _, _, rfl, _⟩ := h; rfl) | (obtain ⟨_, _, _, _, _, _, _, _, rfl, _⟩ := h; rfl)
  | (obtain ⟨_, _, _, _, _, _, _, _, _, rfl, _⟩ := h; rfl) | (obtain ⟨_, _, _, _, _, _, _, _, _, _, rfl, _⟩ := h; rfl))
local macro_rules | `(tactic| walk_at "sd") => `(tactic| first | with_reducible assumption | with_reducible exact SeqD.lst _ | with_reducible exact SeqD.scr _ | ((with_reducible refine' SeqD.own ?h); (case h => walk_at "wk")) | ((with_reducible refine' SeqD.er ?m ?h); (case h => with_reducible assumption); (case m => walk_at "sub")))
local macro_rules | `(tactic| walk_at "cd") => `(tactic| first | with_reducible assumption | with_reducible exact CatD.lst _ | ((with_reducible refine' CatD.own ?h); (case h => walk_at "wk")))
local macro_rules | `(tactic| walk_at "le") => `(tactic| repeat (first | exact EnvLe.nil | exact EnvLe.refl _ | with_reducible refine' EnvLe.cons (.inl rfl) ?_ | with_reducible refine' EnvLe.cons (.inr rfl) ?_))
def p_l_boxes (_ : Ad) : PF := fun ds W Q => ∃ (c : Int), ds = [.int c] ∧ ∀ bs : List Int, OkB bs → Q (.lst (bs.map D.int)) W
def p_l_slots (_ : Ad) : PF := fun ds W Q => ∃ (c : Int), ds = [.int c] ∧ ∀ qs : List Int, qs.length = 8 → (∀ v ∈ qs, Nm v) → Q (.lst (qs.map D.int)) W
def p_l_sum (_ : Ad) : PF := fun ds W Q => ∃ (w : Str) (a b : Int), ds = [.str w, .int a, .int b] ∧ w ∈ five ∧ Nm a ∧ Nm b ∧ Q (.int (rkn w a b)) W
def p_l_plainly (_ : Ad) : PF := fun ds W Q => ∃ (p : Pt) (bs : List Int) (sa sl wr : Addr), ds = [trD p, .lst (bs.map D.int), .ptr sa, .ptr sl, .ptr wr] ∧ ∃ (ps : List Int) (t sn : Dm), W sa = some (.dct (dmD sn)) ∧ W sl = some (.lst (ps.map D.int)) ∧ W wr = some (.dct (dmD t)) ∧ sa ≠ wr ∧ OkS ⟨ps, [t], sn⟩ 1 ∧ OkB bs ∧ okP p ∧ isP4 p = true ∧
  Q .non (wset (wset (wset W sa (.dct (dmD (plainS bs p ⟨ps, [t], sn⟩).sn))) sl (.lst ((plainS bs p ⟨ps, [t], sn⟩).ps.map D.int))) wr (.dct (dmD ((plainS bs p ⟨ps, [t], sn⟩).ts.getLastD []))))
abbrev sp_l_boxes (d : Ad) : Sp := lift d.K (p_l_boxes d)
abbrev sp_l_slots (d : Ad) : Sp := lift d.K (p_l_slots d)
abbrev sp_l_sum (d : Ad) : Sp := lift d.K (p_l_sum d)
abbrev sp_l_plainly (d : Ad) : Sp := lift d.K (p_l_plainly d)
abbrev sp_l_pairs (d : Ad) : Sp := lift d.K (p_by_boxes d)
abbrev N_l_boxes : List Str := ["_law_cell", "_law_mixed_here", "_law_many", "_law_boxes_here", "_law_k", "_law_some"]
def t_l_boxes (d : Ad) : TS :=
  (tSeq (tAsg (tCall (sp_l_mixed d) [] E0 (tCons (tVar 0) tNil)) (gName 1))
  (tSeq (tAsg (tOp (rIxL d.K) (tLst (tCons (tC (.int 1)) (tCons (tC (.int 2)) (tCons (tC (.int 3)) (tCons (aAdd (tC (.int 1)) (aMod (aDiv (tVar 1) (tC (.int 4))) (tC (.int 16)))) tNil))))) (aMod (tVar 1) (tC (.int 4)))) (gName 2))
  (tSeq (tAsg (tLst tNil) (gName 3))
  (tSeq (tFor (iRng1 (tCons (tVar 2) tNil)) (gName 4) (tSeq (tAsg (tLst (tCons (aMod (aDiv (aDiv (tVar 1) (tC (.int 64))) (aAdd (tVar 4) (tC (.int 1)))) (tC (.int 5))) (tCons (tCall (sp_l_wide d) [] E0 (tCons (aAdd (tVar 0) (aMul (tVar 4) (tVar 4))) tNil)) tNil))) (gName 5))
  (tDrop (tBM d.K "list" rAppend (tVar 3) (tCons (tOp (rIxL d.K) (tVar 5) (aMod (aAdd (aDiv (tVar 1) (tC (.int 1000))) (tVar 4)) (tC (.int 2)))) tNil)))))
  (tRet (tVar 3))))))
abbrev N_l_slots : List Str := ["_law_cell", "_law_mixed_here", "_law_slots_here", "_law_k"]
def t_l_slots (d : Ad) : TS :=
  (tSeq (tAsg (tCall (sp_l_mixed d) [] E0 (tCons (tVar 0) tNil)) (gName 1))
  (tSeq (tAsg (tLc (iRng1 (tCons (tC (.int 8)) tNil)) (gName 3) tYes (aMod (aDiv (tVar 1) (aAdd (aMul (tVar 3) (tVar 3)) (tC (.int 3)))) (tC (.int 4))) [3]) (gName 2))
  (tSeq (tAsg (tCall (sp_l_wide d) [] E0 (tCons (tVar 0) tNil)) (gSub (tVar 2) (aMod (tVar 1) (tC (.int 8))) rSetL))
  (tRet (tVar 2)))))
abbrev N_l_sum : List Str := ["_law_word", "_law_one", "_law_other"]
def t_l_sum (d : Ad) : TS :=
  (tSeq (tIfS (tTest (tOp rEq (tVar 0) (tC (.str "less")))) (tRet (tCB rInt1 (tCons (tOp rLt (tVar 1) (tVar 2)) tNil))) tNext)
  (tSeq (tIfS (tTest (tOp rEq (tVar 0) (tC (.str "same")))) (tRet (tCB rInt1 (tCons (tOp rEq (tVar 1) (tVar 2)) tNil))) tNext)
  (tSeq (tIfS (tTest (tOp rEq (tVar 0) (tC (.str "plus")))) (tRet (aMod (aAdd (tVar 1) (tVar 2)) (aPow (tC (.int 2)) (tC (.int 64))))) tNext)
  (tSeq (tIfS (tTest (tOp rEq (tVar 0) (tC (.str "minus")))) (tRet (aMod (aSub (tVar 1) (tVar 2)) (aPow (tC (.int 2)) (tC (.int 64))))) tNext)
  (tRet (aMod (aMul (tVar 1) (tVar 2)) (aPow (tC (.int 2)) (tC (.int 64)))))))))
abbrev N_l_plainly : List Str := ["_law_part_here", "_law_boxes_here", "_law_saw", "_law_slots_here", "_law_written", "_law_one", "_law_other", "_law_box"]
def t_l_plainly (d : Ad) : TS :=
  (tIfS (tTest (tOp rEq (tOp (rIxT d.K) (tVar 0) (tC (.int 0))) (tC (.str "let")))) (tAsg (tOp (rIxT d.K) (tVar 0) (tC (.int 2))) (gSub (tVar 3) (aFind (tC (.str "abcdefgh")) (tOp (rIxT d.K) (tVar 0) (tC (.int 1)))) rSetL)) (tIfS (tTest (tOp rEq (tOp (rIxT d.K) (tVar 0) (tC (.int 0))) (tC (.str "reckon")))) (tSeq (tAsg (tOp (rIxL d.K) (tVar 3) (aFind (tC (.str "abcdefgh")) (tOp (rIxT d.K) (tVar 0) (tC (.int 3))))) (gName 5))
  (tSeq (tAsg (tOp (rIxL d.K) (tVar 3) (aFind (tC (.str "abcdefgh")) (tOp (rIxT d.K) (tVar 0) (tC (.int 4))))) (gName 6))
  (tAsg (tCall (sp_l_sum d) [] E0 (tCons (tOp (rIxT d.K) (tVar 0) (tC (.int 1))) (tCons (tVar 5) (tCons (tVar 6) tNil)))) (gSub (tVar 3) (aFind (tC (.str "abcdefgh")) (tOp (rIxT d.K) (tVar 0) (tC (.int 2)))) rSetL)))) (tIfS (tTest (tOp rEq (tOp (rIxT d.K) (tVar 0) (tC (.int 0))) (tC (.str "put")))) (tSeq (tAsg (aMod (tOp (rIxL d.K) (tVar 3) (aFind (tC (.str "abcdefgh")) (tOp (rIxT d.K) (tVar 0) (tC (.int 1))))) (tCB (Evl.rLenS d.K) (tCons (tVar 1) tNil))) (gName 7))
  (sDPut (tVar 4) (tVar 7) (tOp (rIxL d.K) (tVar 3) (aFind (tC (.str "abcdefgh")) (tOp (rIxT d.K) (tVar 0) (tC (.int 2))))))) (tSeq (tAsg (aMod (tOp (rIxL d.K) (tVar 3) (aFind (tC (.str "abcdefgh")) (tOp (rIxT d.K) (tVar 0) (tC (.int 2))))) (tCB (Evl.rLenS d.K) (tCons (tVar 1) tNil))) (gName 7))
  (tSeq (tIfS (tB (tDNotIn (tVar 7) (tVar 4))) (sDPut (tVar 2) (tVar 7) (tOp (rIxL d.K) (tVar 1) (tVar 7))) tNext)
  (tAsg (tDGet2 (tVar 4) (tVar 7) (tOp (rIxL d.K) (tVar 1) (tVar 7))) (gSub (tVar 3) (aFind (tC (.str "abcdefgh")) (tOp (rIxT d.K) (tVar 0) (tC (.int 1)))) rSetL)))))))
abbrev N_l_pairs : List Str := ["_law_found", "_law_box"]
def t_l_pairs (d : Ad) : TS :=
  (tRet (tLc (iList d.K (tCB rSortedD (tCons (tVar 0) tNil))) (gName 1) tYes (tTup (tCons (tVar 1) (tCons (tDGet (tVar 0) (tVar 1)) tNil))) [1]))
local macro_rules | `(tactic| walk_at "callm") => `(tactic| walk_at "mkp")
def Lay (n : Nat) (x : D) : Prop := ∃ p, pyD x = some p ∧ p.canLay0 = true ∧ p.depth ≤ n
def LayL (n : Nat) (xs : List D) : Prop := ∃ ps, pyDs xs = some ps ∧ PyData.canLayAll0 ps = true ∧ PyData.depthAll ps ≤ n
theorem LayL.nil {n : Nat} : LayL n [] := ⟨[], rfl, rfl, Nat.zero_le _⟩
theorem LayL.cons {n : Nat} {x : D} {xs : List D} (h : Lay n x) (t : LayL n xs) : LayL n (x :: xs) := by
  obtain ⟨p, h1, h2, h3⟩ := h
  obtain ⟨ps, t1, t2, t3⟩ := t
  refine ⟨p :: ps, by rw [pyDs, h1, t1]; rfl, ?_, ?_⟩
  · show (p.canLay0 && PyData.canLayAll0 ps) = true
    rw [h2, t2]; rfl
  · show max p.depth (PyData.depthAll ps) ≤ n
    omega
theorem Lay.tup {n m : Nat} {xs : List D} (h : LayL n xs) (le : n + 1 ≤ m) : Lay m (.tup xs) := by
  obtain ⟨ps, t1, t2, t3⟩ := h
  refine ⟨.tuple ps, by rw [pyD, t1]; rfl, t2, ?_⟩
  show PyData.depthAll ps + 1 ≤ m
  omega
theorem Lay.lst {n m : Nat} {xs : List D} (h : LayL n xs) (le : n + 1 ≤ m) : Lay m (.lst xs) := by
  obtain ⟨ps, t1, t2, t3⟩ := h
  refine ⟨.list ps, by rw [pyD, t1]; rfl, t2, ?_⟩
  show PyData.depthAll ps + 1 ≤ m
  omega
theorem Lay.int {n : Nat} {i : Int} : Lay n (.raw (.int i)) := ⟨_, rfl, rfl, Nat.zero_le _⟩
theorem nice_ints (qs : List Int) (h : qs.length ≤ 100000) (n : Nat) : niceD (n + 2) (.lst (qs.map D.int)) = true := by
  unfold niceD
  rw [List.length_map, decide_eq_true h, List.all_map]
  exact List.all_eq_true.mpr fun v _ => rfl
theorem nice_bx (m : Dm) (h : m.length ≤ 100000) (n : Nat) : niceD (n + 3) (.lst (bxD m)) = true := by
  unfold niceD bxD
  rw [List.length_map, bx_len, decide_eq_true h, List.all_map]
  exact List.all_eq_true.mpr fun v _ => rfl
theorem we_dget2 {K : PySem.W.Frag} {e : Env} {W : Wd} {td ty tx : TE} {Q : KD} (q : WE K td e W fun x W1 => ∃ a q0, x = .ptr a ∧ DctD W1 (.raw (.ref a)) q0 ∧ WE K ty e W1 fun y W2 => WE K tx e W2 fun z W3 => ∃ q k, DctD W3 (.raw (.ref a)) q ∧ y = kD k ∧ Q ((valD q k).getD z) W3) : WE K (tDGet2 td ty tx) e W Q := fun B σ H kk s r hk =>
  q B σ H _ s r fun v B1 H1 d1 W1 e1 s1 r1 q1 => by
    obtain ⟨a, q0, rfl, h0, q1⟩ := q1
    cases r1
    obtain ⟨a', kvs, ea, g1, g2⟩ := dct_sem s1 (.raw _) h0
    cases ea
    refine ⟨a, rfl, .inl ⟨kvs, g1⟩, q1 B1 σ H1 _ s1 (r.mono e1) fun w B2 H2 d2 W2 e2 s2 r2 q2 => q2 B2 σ H2 _ s2 ((r.mono e1).mono e2) fun u B3 H3 d3 W3 e3 s3 r3 q3 => ?_⟩
    obtain ⟨q, k, h3, rfl, q3⟩ := q3
    obtain ⟨a', kvs3, ea, g3, g4⟩ := dct_sem s3 (.raw _) h3
    cases ea
    cases r2
    refine ⟨valV kvs3 k, .inl ⟨kvs3, k, g3, rfl, rfl⟩, ?_⟩
    rcases val_sem g4 k with ⟨z1, z2⟩ | ⟨x, dx, z1, z2, z3⟩
    · rw [z1] at q3; rw [z2]
      exact hk _ B3 H3 _ W3 ((e1.trans e2).trans e3) s3 r3 q3
    · rw [z1] at q3; rw [z2]
      exact hk _ B3 H3 _ W3 ((e1.trans e2).trans e3) s3 z3 q3
section
variable {d : Ad} {vs : List V} {H : Hp} {Q : VK} {E : XK}
theorem pure_l_pairs (h : sp_l_pairs d vs H Q E) : t_l_pairs d { nx := fun _ H' => Q .non H', rt := Q } (start N_l_pairs vs) H := pure_by_boxes h
theorem nm5 {v : Int} (h0 : 0 ≤ v) (h1 : v < 5) : Nm v := ⟨h0, by unfold WIDE; omega⟩
theorem nm_wide (c : Int) : Nm (c * 982451653 % 2 ^ Int.toNat 64) := ⟨Int.emod_nonneg _ (by decide), Int.emod_lt_of_pos _ (by decide)⟩
theorem pure_l_boxes (h : sp_l_boxes d vs H Q E) : t_l_boxes d { nx := fun _ H' => Q .non H', rt := Q } (start N_l_boxes vs) H := by
  refine lift_pure h fun ds W Q hp => ?_
  obtain ⟨c, rfl, k⟩ := hp
  show WS d.K (t_l_boxes d) [some (.raw (.int c)), none, none, none, none, none] W _
  unfold t_l_boxes
  walk_at "mgo"
  refine ⟨_, rfl, ?_⟩
  generalize c * 48271 % 999999999989 = m
  walk_at "mgo"
  walk_at "dat"
  obtain ⟨mn, e1, b1, b2⟩ : ∃ q : Int, atI [D.int 1, D.int 2, D.int 3, D.int (1 + m / 4 % 16)] (m % 4) = some (D.int q) ∧ 1 ≤ q ∧ q ≤ 16 := by
    obtain ⟨q, e, h1, h2⟩ := menuD (l := [1, 2, 3, 1 + m / 4 % 16]) (P := fun q : Int => 1 ≤ q ∧ q ≤ 16) (i := m % 4) D.int (by omega) (by show m % 4 < 4; omega) (fun q hq => by
      simp only [List.mem_cons, List.not_mem_nil, or_false] at hq
      rcases hq with rfl | rfl | rfl | rfl <;> omega)
    exact ⟨q, e, h1, h2⟩
  refine d_ixL (SeqD.lst _) e1 ?_
  walk_at "mgo"
  intro R hR
  refine fz_id ?_
  walk_at "mgo"
  refine ⟨fun i e W' => e = [some (.raw (.int c)), some (.raw (.int m)), some (.raw (.int mn)), some (.ptr R), none, none] ∧ ∃ bs : List Int, W' = wset W R (.lst (bs.map D.int)) ∧ bs.length = i ∧ ∀ v ∈ bs, Nm v, nx_id ⟨rfl, [], rfl, rfl, fun v hv => by cases hv⟩, fun _ _ _ _ _ => trivial, ?_, ?_⟩
  · rintro i u e' W' hi hu ⟨rfl, bs, rfl, hl, hb⟩
    cases hu
    have hi : i < mn.toNat := hi
    rw [show (0 + (i : Nat) * 1 : Int) = (i : Nat) from by rw [Int.mul_one, Int.zero_add]]
    have hcd : CDiv (m / 64) ((i : Int) + 1) := ⟨by omega, by omega⟩
    have hcm : CMul (i : Int) (i : Int) := .inl ⟨by omega, by omega⟩
    walk_at "mgo"
    refine ⟨_, rfl, ?_⟩
    walk_at "mgo"
    walk_at "dat"
    obtain ⟨q, e2, h1⟩ := menuD (l := [m / 64 / ((i : Int) + 1) % 5, (c + (i : Int) * (i : Int)) * 982451653 % 2 ^ Int.toNat 64]) (P := Nm) (i := (m / 1000 + (i : Int)) % 2) D.int (by omega) (by show (m / 1000 + (i : Int)) % 2 < 2; omega) (fun q hq => by
      simp only [List.mem_cons, List.not_mem_nil, or_false] at hq
      rcases hq with rfl | rfl
      · exact nm5 (by omega) (by omega)
      · exact nm_wide _)
    refine d_ixL (SeqD.lst _) e2 ?_
    walk_at "mgo"
    refine nx_le (by walk_at "le") ⟨rfl, bs ++ [q], by rw [List.map_append]; rfl, by rw [List.length_append, hl]; rfl, fun v hv => ?_⟩
    rcases List.mem_append.mp hv with hv | hv
    · exact hb v hv
    · rw [List.mem_singleton.mp hv]; exact h1
  · rintro e' W' ⟨rfl, bs, rfl, hl, hb⟩
    have hl : bs.length = mn.toNat := hl
    walk_at "mgo"
    exact ret_frz hR (Sub.refl _) (k bs ⟨by omega, by omega, hb⟩)
theorem pure_l_slots (h : sp_l_slots d vs H Q E) : t_l_slots d { nx := fun _ H' => Q .non H', rt := Q } (start N_l_slots vs) H := by
  refine lift_pure h fun ds W Q hp => ?_
  obtain ⟨c, rfl, k⟩ := hp
  show WS d.K (t_l_slots d) [some (.raw (.int c)), none, none, none] W _
  unfold t_l_slots
  walk_at "mgo"
  refine ⟨_, rfl, ?_⟩
  generalize c * 48271 % 999999999989 = m
  walk_at "mgo"
  refine ⟨by decide, ((List.range 8).map fun i : Nat => m / ((i : Int) * (i : Int) + 3) % 4).map D.int, by simp; rfl, ?_, ?_⟩
  · intro p i u L hp hi hu
    cases hu
    have hi : i < 8 := hi
    rw [show (0 + (i : Nat) * 1 : Int) = (i : Nat) from by rw [Int.mul_one, Int.zero_add]]
    have hcm : CMul (i : Int) (i : Int) := .inl ⟨by omega, by omega⟩
    have hsq : (i : Int) * (i : Int) ≤ 64 ∧ 0 ≤ (i : Int) * (i : Int) := by
      have h64 : i * i ≤ 8 * 8 := Nat.mul_le_mul (by omega) (by omega)
      have e : ((i * i : Nat) : Int) = (i : Int) * (i : Int) := Int.natCast_mul i i
      omega
    have hcd : CDiv m ((i : Int) * (i : Int) + 3) := ⟨by omega, by omega⟩
    walk_at "mgo"
    refine fz_id (sub_q (Sub.refl _) ⟨?_, rfl⟩)
    rw [List.getElem?_map, List.getElem?_map, List.getElem?_range hi]
    rfl
  · intro R hR
    refine fz_id ?_
    walk_at "mgo"
    refine ⟨_, rfl, ?_⟩
    walk_at "mgo"
    refine wg_sub ?_
    walk_at "mgo"
    have hlen : (((List.range 8).map fun i : Nat => m / ((i : Int) * (i : Int) + 3) % 4)).length = 8 := by simp
    have hnm : ∀ v ∈ ((List.range 8).map fun i : Nat => m / ((i : Int) * (i : Int) + 3) % 4), Nm v := fun v hv => by
      obtain ⟨i, _, rfl⟩ := List.mem_map.mp hv
      exact nm5 (by omega) (by omega)
    generalize ((List.range 8).map fun i : Nat => m / ((i : Int) * (i : Int) + 3) % 4) = qs at hlen hnm ⊢
    obtain ⟨j, ej, bj⟩ : ∃ j : Nat, m % 8 = (j : Int) ∧ j < 8 := ⟨(m % 8).toNat, by omega, by omega⟩
    rw [ej]
    refine d_setL ws_same (n := j) (by unfold ixN; rw [List.length_map, hlen, if_pos (by omega), if_pos (by omega), Int.toNat_natCast]) ?_
    rw [ws_ws, show (qs.map D.int).set j (.raw (.int (c * 982451653 % 2 ^ Int.toNat 64))) = (qs.set j (c * 982451653 % 2 ^ Int.toNat 64)).map D.int from List.map_set.symm]
    walk_at "mgo"
    refine ret_frz hR (Sub.refl _) (k _ (by rw [List.length_set]; exact hlen) fun v hv => ?_)
    rcases List.mem_or_eq_of_mem_set hv with z | z
    · exact hnm v z
    · rw [z]; exact nm_wide _
theorem pure_l_sum (h : sp_l_sum d vs H Q E) : t_l_sum d { nx := fun _ H' => Q .non H', rt := Q } (start N_l_sum vs) H := by
  refine lift_pure h fun ds W Q hp => ?_
  obtain ⟨w, a, b, rfl, hw, ha, hb, k⟩ := hp
  show WS d.K (t_l_sum d) [some (.raw (.str w)), some (.raw (.int a)), some (.raw (.int b))] W _
  unfold t_l_sum
  have hm : CMul a b := .inl ⟨by have := ha.1; omega, by have := ha.2; unfold WIDE at this; omega⟩
  simp only [five, List.mem_cons, List.not_mem_nil, or_false] at hw
  rcases hw with rfl | rfl | rfl | rfl | rfl
  · walk_at "mgo"
    exact ret_dat (Sub.refl _) k
  · walk_at "mgo"
    exact ret_dat (Sub.refl _) k
  · walk_at "mgo"
    exact ret_dat (Sub.refl _) k
  · walk_at "mgo"
    rw [show (if dB (a < b) = true then (1 : Int) else 0) = rkn "less" a b from by
      rw [show rkn "less" a b = if a < b then 1 else 0 from rfl]
      by_cases z : a < b
      · rw [dB_t z, if_pos rfl, if_pos z]
      · rw [dB_f z, if_neg Bool.false_ne_true, if_neg z]]
    exact ret_dat (Sub.refl _) k
  · walk_at "mgo"
    rw [show (if dB (a = b) = true then (1 : Int) else 0) = rkn "same" a b from by
      rw [show rkn "same" a b = if a = b then 1 else 0 from rfl]
      by_cases z : a = b
      · rw [dB_t z, if_pos rfl, if_pos z]
      · rw [dB_f z, if_neg Bool.false_ne_true, if_neg z]]
    exact ret_dat (Sub.refl _) k
end
end
set_option Elab.async false
set_option linter.all false
set_option maxRecDepth 100000
set_option maxHeartbeats 400000
set_option autoImplicit false
local macro_rules | `(tactic| walk_at "sd") => `(tactic| first | with_reducible assumption | with_reducible exact SeqD.lst _ | with_reducible exact SeqD.scr _ | ((with_reducible refine' SeqD.own ?h); (case h => walk_at "wk")) | ((with_reducible refine' SeqD.er ?m ?h); (case h => with_reducible assumption); (case m => walk_at "sub")))
local macro_rules | `(tactic| walk_at "cd") => `(tactic| first | with_reducible assumption | with_reducible exact CatD.lst _ | ((with_reducible refine' CatD.own ?h); (case h => walk_at "wk")))
local macro_rules | `(tactic| walk_at "le") => `(tactic| repeat (first | exact EnvLe.nil | exact EnvLe.refl _ | with_reducible refine' EnvLe.cons (.inl rfl) ?_ | with_reducible refine' EnvLe.cons (.inr rfl) ?_))
section
open PySem L2
local macro_rules | `(tactic| walk_at "sc") => `(tactic| first | assumption | decide | omega | (unfold CMul; omega) | (unfold CDiv; omega) | (unfold CPow; decide) | (unfold CDiv; decide))
local macro_rules | `(tactic| walk_at "go") => `(tactic| (repeat (first | walk_at "step" | walk_at "callx")))
local macro_rules | `(tactic| walk_at "len") => `(tactic| first
  | (obtain ⟨rfl, _⟩ := h; rfl) | (obtain ⟨_, rfl, _⟩ := h; rfl) | (obtain ⟨_, _, rfl, _⟩ := h; rfl) | (obtain ⟨_, _, _, rfl, _⟩ := h; rfl) | (obtain ⟨_, _, _, _, rfl, _⟩ := h; rfl)
  | (obtain ⟨_, _, _, _, _, rfl, _⟩ := h; rfl) | (obtain ⟨_, _, _, _, _, _, rfl, _⟩ := h; rfl) | (obtain ⟨_, _, _, _, _, _, _, rfl, _⟩ := h; rfl) | (obtain ⟨_, _, _, _, _, _, _, _, rfl, _⟩ := h; rfl)
  | (obtain ⟨_, _, _, _, _, _, _, _, _, rfl, _⟩ := h; rfl) | (obtain ⟨_, _, _, _, _, _, _, _, _, _, rfl, _⟩ := h; rfl))
theorem Lay.str {n : Nat} {s : Str} (h : PyData.strOk s = true) : Lay n (.raw (.str s)) := ⟨_, rfl, h, Nat.zero_le _⟩
theorem Lay.non {n : Nat} : Lay n (.raw .non) := ⟨_, rfl, rfl, Nat.zero_le _⟩
def EndN (e : Option AE) : Prop := ∀ m v, e = some (.fell m v) → NameOk m
mutual
theorem go_name {bs : List Int} : ∀ (p : Pt) (σ : AS), okP p → EndN (goP bs p σ).1
  | .iff s ps os, σ, ok => by
    rw [goP]
    split
    · exact go_names ps σ ok.2.1
    · exact go_names os σ ok.2.2
  | .eith ps os, σ, ok => by
    rw [goP]
    have h := go_names (bs := bs) ps σ ok.1
    generalize goPs bs ps σ = r at h
    match r, h with
    | (none, τ), h => exact h
    | (some .waits, τ), h => exact go_names os _ ok.2
    | (some (.fell m v), τ), h => exact h
  | .tryy ps n s os, σ, ok => by
    rw [goP]
    have h := go_names (bs := bs) ps σ ok.1
    generalize goPs bs ps σ = r at h
    match r, h with
    | (none, τ), h => exact h
    | (some .waits, τ), h => exact h
    | (some (.fell m v), τ), h =>
      simp only
      split
      · exact go_names os _ ok.2.2.2
      · exact h
  | .throw n s, σ, ok => by rw [goP]; intro m v e; cases e; exact ok.1
  | .wait, σ, ok => by rw [goP]; intro m v e; cases e
  | .let_ .., σ, ok => by rw [goP]; intro m v e; cases e
  | .rk .., σ, ok => by rw [goP]; intro m v e; cases e
  | .take .., σ, ok => by rw [goP]; intro m v e; cases e
  | .put .., σ, ok => by rw [goP]; intro m v e; cases e
theorem go_names {bs : List Int} : ∀ (ps : List Pt) (σ : AS), okPs ps → EndN (goPs bs ps σ).1
  | [], σ, ok => by rw [goPs]; intro m v e; cases e
  | p :: r, σ, ok => by
    rw [goPs]
    have h := go_name (bs := bs) p σ ok.1
    generalize goP bs p σ = q at h
    match q, h with
    | (none, τ), h => exact go_names r τ ok.2
    | (some e, τ), h => exact h
end
structure GoOk (r : Option AE × AS) : Prop where
  ok : OkS r.2 1
  nv : ∀ m v, r.1 = some (.fell m v) → Nm v
  nm : EndN r.1
structure GoPre (W : Wd) (sa wr : Addr) (bs : List Int) (σ : AS) : Prop where
  sn : W sa = some (.dct (dmD σ.sn))
  wt : W wr = some (.dct (dmD (σ.ts.getLastD [])))
  ne : wr ≠ sa
  ok : OkS σ 1
  ob : OkB bs
def GoK (W : Wd) (sa wr : Addr) (r : Option AE × AS) (Q : KD) : Prop := ∀ q W', GoOk r → W' q = some (.dct (dmD (r.2.ts.getLastD []))) → W' sa = some (.dct (dmD r.2.sn)) → q ≠ sa → Sub (wer (wer W sa) wr) W' → wer (wer W sa) wr q = none →
  Q (.tup [endD r.1, .lst (r.2.ps.map D.int), .ptr q]) W'
def goDs (x : D) (bs : List Int) (sa : Addr) (σ : AS) (wr : Addr) : List D := [x, .lst (bs.map D.int), .ptr sa, .lst (σ.ps.map D.int), .ptr wr]
def pN_l_do (n : Nat) (d : Ad) : PF := fun ds W Q => ∃ (ps : List Pt) (bs : List Int) (sa wr : Addr) (σ : AS), ds = [.lst (trsD ps), .lst (bs.map D.int), .ptr sa, .lst (σ.ps.map D.int), .ptr wr] ∧ ndPs ps < n ∧ okPs ps ∧ GoPre W sa wr bs σ ∧ GoK W sa wr (goPs bs ps σ) Q
def pN_l_part (n : Nat) (d : Ad) : PF := fun ds W Q => ∃ (p : Pt) (bs : List Int) (sa wr : Addr) (σ : AS), ds = [trD p, .lst (bs.map D.int), .ptr sa, .lst (σ.ps.map D.int), .ptr wr] ∧ ndP p ≤ n ∧ okP p ∧ GoPre W sa wr bs σ ∧ GoK W sa wr (goP bs p σ) Q
def dueD (e : Option AE) (τ : AS) (qs : List Int) : D := .tup [match e with | none => .tup [.raw (.str "done")] | some _ => endD e, .lst (bxD τ.sn), .lst (match e with | none => bxD (τ.ts.getLastD []) | some _ => []), .lst ((match e with | none => τ.ps | some _ => qs).map D.int)]
def p_l_due (d : Ad) : PF := fun ds W Q => ∃ (ps : List Pt) (bs qs : List Int), ds = [.lst (trsD ps), .lst (bs.map D.int), .lst (qs.map D.int)] ∧ ndPs ps < 20 ∧ okPs ps ∧ OkB bs ∧ qs.length = 8 ∧ (∀ v ∈ qs, Nm v) ∧
  ∀ e τ, goPs bs ps ⟨qs, [[]], []⟩ = (e, τ) → Q (dueD e τ qs) W
abbrev spN_l_do (n : Nat) (d : Ad) : Sp := lift d.K (pN_l_do n d)
abbrev spN_l_part (n : Nat) (d : Ad) : Sp := lift d.K (pN_l_part n d)
abbrev sp_l_do (d : Ad) : Sp := spN_l_do 20 d
abbrev sp_l_part (d : Ad) : Sp := spN_l_part 20 d
abbrev sp_l_due (d : Ad) : Sp := lift d.K (p_l_due d)
abbrev N_l_part : List Str := ["_law_part_here", "_law_boxes_here", "_law_saw", "_law_slots_here", "_law_written", "_law_side", "_law_tried"]
def t_l_part_5 (n : Nat) (d : Ad) : TS :=
  (tSeq (tAsg (tCB (rListOf d.K) (tCons (tVar 3) tNil)) (gName 3))
  (tSeq (tAsg (tCB rDCopy (tCons (tVar 4) tNil)) (gName 4))
  (tSeq (tDrop (tCall (sp_l_plainly d) [] E0 (tCons (tVar 0) (tCons (tVar 1) (tCons (tVar 2) (tCons (tVar 3) (tCons (tVar 4) tNil)))))))
  (tRet (tTup (tCons (tC .non) (tCons (tVar 3) (tCons (tVar 4) tNil))))))))
def t_l_part (n : Nat) (d : Ad) : TS :=
  (tSeq (tIfS (tTest (tOp rEq (tOp (rIxT d.K) (tVar 0) (tC (.int 0))) (tC (.str "wait")))) (tRet (tTup (tCons (tTup (tCons (tC (.str "waits")) tNil)) (tCons (tVar 3) (tCons (tVar 4) tNil))))) tNext)
  (tSeq (tIfS (tTest (tOp rEq (tOp (rIxT d.K) (tVar 0) (tC (.int 0))) (tC (.str "throw")))) (tRet (tTup (tCons (tTup (tCons (tC (.str "fell")) (tCons (tOp (rIxT d.K) (tVar 0) (tC (.int 1))) (tCons (tOp (rIxL d.K) (tVar 3) (aFind (tC (.str "abcdefgh")) (tOp (rIxT d.K) (tVar 0) (tC (.int 2))))) tNil)))) (tCons (tVar 3) (tCons (tVar 4) tNil))))) tNext)
  (tSeq (tIfS (tTest (tOp rEq (tOp (rIxT d.K) (tVar 0) (tC (.int 0))) (tC (.str "if")))) (tSeq (tAsg (aAdd (tC (.int 2)) (tCB rInt1 (tCons (tOp rEq (tOp (rIxL d.K) (tVar 3) (aFind (tC (.str "abcdefgh")) (tOp (rIxT d.K) (tVar 0) (tC (.int 1))))) (tC (.int 0))) tNil))) (gName 5))
  (tRet (tCall (spN_l_do n d) [] E0 (tCons (tOp (rIxT d.K) (tVar 0) (tVar 5)) (tCons (tVar 1) (tCons (tVar 2) (tCons (tVar 3) (tCons (tVar 4) tNil)))))))) tNext)
  (tSeq (tIfS (tTest (tOp rEq (tOp (rIxT d.K) (tVar 0) (tC (.int 0))) (tC (.str "either")))) (tSeq (tAsg (tCall (spN_l_do n d) [] E0 (tCons (tOp (rIxT d.K) (tVar 0) (tC (.int 1))) (tCons (tVar 1) (tCons (tVar 2) (tCons (tCB (rListOf d.K) (tCons (tVar 3) tNil)) (tCons (tCB rDCopy (tCons (tVar 4) tNil)) tNil)))))) (gName 6))
  (tSeq (tIfS (tTest (tOp (rNeD d.K) (tOp (rIxT d.K) (tVar 6) (tC (.int 0))) (tTup (tCons (tC (.str "waits")) tNil)))) (tRet (tVar 6)) tNext)
  (tRet (tCall (spN_l_do n d) [] E0 (tCons (tOp (rIxT d.K) (tVar 0) (tC (.int 2))) (tCons (tVar 1) (tCons (tVar 2) (tCons (tVar 3) (tCons (tVar 4) tNil))))))))) tNext)
  (tSeq (tIfS (tTest (tOp rEq (tOp (rIxT d.K) (tVar 0) (tC (.int 0))) (tC (.str "try")))) (tSeq (tAsg (tCall (spN_l_do n d) [] E0 (tCons (tOp (rIxT d.K) (tVar 0) (tC (.int 1))) (tCons (tVar 1) (tCons (tVar 2) (tCons (tCB (rListOf d.K) (tCons (tVar 3) tNil)) (tCons (tCB rDCopy (tCons (tVar 4) tNil)) tNil)))))) (gName 6))
  (tSeq (tIfS (tOr (tTest (tOp rIsN (tOp (rIxT d.K) (tVar 6) (tC (.int 0))) (tC .non))) (tOr (tTest (tOp rNe (tOp (rIx d.K) (tOp (rIxT d.K) (tVar 6) (tC (.int 0))) (tC (.int 0))) (tC (.str "fell")))) (tTest (tOp rNe (tOp (rIx d.K) (tOp (rIxT d.K) (tVar 6) (tC (.int 0))) (tC (.int 1))) (tOp (rIxT d.K) (tVar 0) (tC (.int 2))))))) (tRet (tVar 6)) tNext)
  (tSeq (tAsg (tCB (rListOf d.K) (tCons (tVar 3) tNil)) (gName 3))
  (tSeq (tAsg (tOp (rIx d.K) (tOp (rIxT d.K) (tVar 6) (tC (.int 0))) (tC (.int 2))) (gSub (tVar 3) (aFind (tC (.str "abcdefgh")) (tOp (rIxT d.K) (tVar 0) (tC (.int 3)))) rSetL))
  (tRet (tCall (spN_l_do n d) [] E0 (tCons (tOp (rIxT d.K) (tVar 0) (tC (.int 4))) (tCons (tVar 1) (tCons (tVar 2) (tCons (tVar 3) (tCons (tVar 4) tNil))))))))))) tNext)
  (t_l_part_5 n d))))))
abbrev N_l_do : List Str := ["_law_tree_here", "_law_boxes_here", "_law_saw", "_law_slots_here", "_law_written", "_law_part_here", "_law_end"]
def t_l_do (n : Nat) (d : Ad) : TS :=
  (tSeq (tFor (iList d.K (tVar 0)) (gName 5) (tSeq (tAsg (tCall (spN_l_part n d) [] E0 (tCons (tVar 5) (tCons (tVar 1) (tCons (tVar 2) (tCons (tVar 3) (tCons (tVar 4) tNil)))))) (gTup d.K 3 (gCons (gName 6) (gCons (gName 3) (gCons (gName 4) gNil)))))
  (tIfS (tTest (tOp rNotN (tVar 6) (tC .non))) (tRet (tTup (tCons (tVar 6) (tCons (tVar 3) (tCons (tVar 4) tNil))))) tNext)))
  (tRet (tTup (tCons (tC .non) (tCons (tVar 3) (tCons (tVar 4) tNil))))))
abbrev N_l_due : List Str := ["_law_tree_here", "_law_boxes_here", "_law_slots_here", "_law_saw", "_law_end", "_law_left", "_law_written"]
def t_l_due (d : Ad) : TS :=
  (tSeq (tAsg tDNewK (gName 3))
  (tSeq (tAsg (tCall (sp_l_do d) [] E0 (tCons (tVar 0) (tCons (tVar 1) (tCons (tVar 3) (tCons (tCB (rListOf d.K) (tCons (tVar 2) tNil)) (tCons tDNewK tNil)))))) (gTup d.K 3 (gCons (gName 4) (gCons (gName 5) (gCons (gName 6) gNil)))))
  (tSeq (tIfS (tTest (tOp rIsN (tVar 4) (tC .non))) (tRet (tTup (tCons (tTup (tCons (tC (.str "done")) tNil)) (tCons (tCall (sp_l_pairs d) [] E0 (tCons (tVar 3) tNil)) (tCons (tCall (sp_l_pairs d) [] E0 (tCons (tVar 6) tNil)) (tCons (tVar 5) tNil)))))) tNext)
  (tRet (tTup (tCons (tVar 4) (tCons (tCall (sp_l_pairs d) [] E0 (tCons (tVar 3) tNil)) (tCons (tLst tNil) (tCons (tCB (rListOf d.K) (tCons (tVar 2) tNil)) tNil)))))))))
local macro_rules | `(tactic| walk_at "callm") => `(tactic| with_reducible refine' (we_callF (p := p_by_boxes _) ?_))
section
variable {d : Ad} {vs : List V} {H : Hp} {Q : VK} {E : XK}
end
end
set_option Elab.async false
set_option linter.all false
set_option maxRecDepth 100000
set_option maxHeartbeats 400000
set_option autoImplicit false
section
open PySem L2
local macro_rules | `(tactic| walk_at "sc") => `(tactic| first | assumption | decide | omega | (unfold CMul; omega) | (unfold CDiv; omega) | (unfold CPow; decide) | (unfold CDiv; decide))
local macro_rules | `(tactic| walk_at "go") => `(tactic| (repeat (first | walk_at "step" | walk_at "callx")))
local macro_rules | `(tactic| walk_at "len") => `(tactic| first
  | (obtain ⟨rfl, _⟩ := h; rfl) | (obtain ⟨_, rfl, _⟩ := h; rfl) | (obtain ⟨_, _, rfl, _⟩ := h; rfl) | (obtain ⟨_, _, _, rfl, _⟩ := h; rfl) | (obtain ⟨_, _, _, _, rfl, _⟩ := h; rfl)
  | (obtain ⟨_, _, _, _, _, rfl, _⟩ := h; rfl) | (obtain ⟨_, _, _, _, _, _, rfl, _⟩ := h; rfl) | (obtain ⟨_, _, _, _, _, _, _, rfl, _⟩ := h; rfl) | (obtain ⟨_, _, _, _, _, _, _, _, rfl, _⟩ := h; rfl)
  | (obtain ⟨_, _, _, _, _, _, _, _, _, rfl, _⟩ := h; rfl) | (obtain ⟨_, _, _, _, _, _, _, _, _, _, rfl, _⟩ := h; rfl))
theorem ints_len (qs : List Int) : (qs.map D.int).length = qs.length := List.length_map _
theorem nice_due {x1 : D} {l1 l2 l3 : List D} (h1 : niceD 7 x1 = true) (h2 : niceD 7 (.lst l1) = true) (h3 : niceD 7 (.lst l2) = true) (h4 : niceD 7 (.lst l3) = true) : niceD 8 (.tup [x1, .lst l1, .lst l2, .lst l3]) = true := by
  show (decide (4 ≤ 100000) && (niceD 7 x1 && (niceD 7 (.lst l1) && (niceD 7 (.lst l2) && (niceD 7 (.lst l3) && true))))) = true
  rw [h1, h2, h3, h4]
  rfl
theorem bxD_le {m : Dm} (h : DmOk m) : (bxD m).length ≤ 16 := by unfold bxD; rw [List.length_map, bx_len]; exact h.k.len
theorem alone_go {d : Ad} {W : Wd} {Q : KD} {ps : List Pt} {bs qs : List Int} {a b : D} (ha : SeqD W a (bs.map D.int)) (hb : SeqD W b (qs.map D.int)) (ob : OkB bs) (h8 : qs.length = 8) (hq : ∀ v ∈ qs, Nm v) (ok : okPs ps) (nd : ndPs ps ≤ 40)
    (k : ∀ (x1 : D) (l1 l2 l3 : List D) (e : Option AE) (ρ : AS), goPs bs ps ⟨qs, [[]], []⟩ = (e, ρ) → dueD e ρ qs = .tup [x1, .lst l1, .lst l2, .lst l3] → niceD 8 (.tup [x1, .lst l1, .lst l2, .lst l3]) = true → l1.length ≤ 16 → l2.length ≤ 16 → l3.length ≤ 16 →
      ∀ u v w, W u = none → wset W u (.lst l1) v = none → wset (wset W u (.lst l1)) v (.lst l2) w = none → Q (.tup [x1, .ptr u, .ptr v, .ptr w]) (wset (wset (wset W u (.lst l1)) v (.lst l2)) w (.lst l3))) : p_alone d [.lst (psD d ps), a, b] W Q := by
  refine ⟨ps, a, b, rfl, bs, qs, ha, hb, ob, h8, hq, ok, nd, ?_⟩
  intro r e τ he u v w hu hv hw hr
  subst hr
  generalize hg : goPs bs ps ⟨qs, [[]], []⟩ = r at k
  obtain ⟨e2, ρ⟩ := r
  obtain ⟨t1, t2, t3, t4, t5, t6⟩ := go_told ob ok h8 hq he hg
  subst t1
  have k := fun x1 l1 l2 l3 => k x1 l1 l2 l3 e2 ρ rfl
  have b1 : (bxD τ.sn).length ≤ 16 := bxD_le t3.sn
  have n1 := nice_bx τ.sn (by have := t3.sn.k.len; omega) 4
  have nqs := nice_ints qs (by omega) 5
  cases e2 with
  | none =>
    obtain ⟨g1, g2⟩ := t5 rfl
    obtain ⟨t, et⟩ := okS_one t3
    have ht := t3.ts t (by rw [et]; simp)
    simp only [et] at hv hw g2 ⊢
    rw [show ([t] : List Dm).getLastD [] = t from rfl] at hw g2 ⊢
    refine k _ _ _ _ ?_ ?_ b1 (bxD_le ht) ?_ u v w hu hv hw
    · unfold dueD
      simp only [t2, g1, g2]
    · exact nice_due rfl n1 (nice_bx t (by have := ht.k.len; omega) 4) (nice_ints τ.ps (by rw [t3.ps]; decide) 5)
    · rw [ints_len, t3.ps]; decide
  | some e =>
    refine k _ _ _ _ ?_ ?_ b1 (by simp) ?_ u v w hu hv hw
    · unfold dueD
      simp only [t2]
    · exact nice_due (by cases e <;> rfl) n1 rfl nqs
    · rw [ints_len, h8]; decide
theorem due_at {W : Wd} {x1 : D} {l1 l2 l3 : List D} {u v w : Addr} (h1 : W u = some (.lst l1)) (h2 : W v = some (.lst l2)) (h3 : W w = some (.lst l3)) : AtA W (.tup [x1, .ptr u, .ptr v, .ptr w]) (.tup [x1, .lst l1, .lst l2, .lst l3]) := .tup rfl fun i x z k1 k2 => by
  match i, k1, k2 with
  | 0, k1, k2 => cases k1; cases k2; exact .id _
  | 1, k1, k2 => cases k1; cases k2; exact .own h1
  | 2, k1, k2 => cases k1; cases k2; exact .own h2
  | 3, k1, k2 => cases k1; cases k2; exact .own h3
  | i + 4, k1, k2 => simp at k1
end
set_option Elab.async false
set_option linter.all false
set_option maxRecDepth 100000
set_option maxHeartbeats 400000
set_option autoImplicit false
section
open PySem L2
mutual
def flt (t e : Bool) : Pt → Bool
  | .iff _ ps os => flts t e ps && flts t e os
  | .eith ps os => e && (flts t e ps && flts t e os)
  | .tryy ps _ _ os => t && (flts t e ps && flts t e os)
  | .throw .. => t
  | .let_ .. | .rk .. | .take .. | .put .. | .wait => true
def flts (t e : Bool) : List Pt → Bool
  | [] => true
  | p :: r => flt t e p && flts t e r
end
theorem flts_cons {t e : Bool} {p : Pt} {r : List Pt} : flts t e (p :: r) = true ↔ flt t e p = true ∧ flts t e r = true := by rw [flts, Bool.and_eq_true]
def NoFell (e : Option AE) : Prop := ∀ m v, e ≠ some (.fell m v)
mutual
theorem go_nofell {bs : List Int} {e : Bool} : ∀ (p : Pt) (σ : AS), flt false e p = true → NoFell (goP bs p σ).1
  | .iff s ps os, σ, h => by
    rw [flt, Bool.and_eq_true] at h
    rw [goP]
    split
    · exact go_nofells ps σ h.1
    · exact go_nofells os σ h.2
  | .eith ps os, σ, h => by
    rw [flt, Bool.and_eq_true, Bool.and_eq_true] at h
    rw [goP]
    have k := go_nofells (bs := bs) ps σ h.2.1
    generalize goPs bs ps σ = r at k
    match r, k with
    | (none, τ), k => exact k
    | (some .waits, τ), k => exact go_nofells os _ h.2.2
    | (some (.fell m v), τ), k => exact k
  | .tryy .., σ, h => by rw [flt] at h; cases h
  | .throw .., σ, h => by rw [flt] at h; cases h
  | .wait, σ, h => by rw [goP]; exact nofun
  | .let_ .., σ, h => by rw [goP]; exact nofun
  | .rk .., σ, h => by rw [goP]; exact nofun
  | .take .., σ, h => by rw [goP]; exact nofun
  | .put .., σ, h => by rw [goP]; exact nofun
theorem go_nofells {bs : List Int} {e : Bool} : ∀ (ps : List Pt) (σ : AS), flts false e ps = true → NoFell (goPs bs ps σ).1
  | [], σ, h => by rw [goPs]; exact nofun
  | p :: r, σ, h => by
    have h := flts_cons.mp h
    rw [goPs]
    have k := go_nofell (bs := bs) p σ h.1
    generalize goP bs p σ = q at k
    match q, k with
    | (none, τ), k => exact go_nofells r τ h.2
    | (some e, τ), k => exact k
end
section
variable {K : PySem.W.Frag} {W : Wd} {Q : KD} {ds : List D}
end
end
set_option Elab.async false
set_option linter.all false
set_option maxRecDepth 100000
set_option maxHeartbeats 400000
set_option autoImplicit false
section
open PySem L2
inductive Mk where
  | eith (g : Nat) (ps : List Int) (ts : List Dm)
  | guard (n s : Str) (g : Nat) (ps : List Int) (ts : List Dm)
def Mk.takes : Mk → AE → Bool
  | .eith .., .waits => true
  | .guard n .., .fell m _ => decide (m = n)
  | _, _ => false
def Mk.goal : Mk → Nat
  | .eith g .. => g
  | .guard _ _ g .. => g
def Mk.ps : Mk → List Int
  | .eith _ p _ => p
  | .guard _ _ _ p _ => p
def Mk.ts : Mk → List Dm
  | .eith _ _ t => t
  | .guard _ _ _ _ t => t
def Mk.row : Mk → List V
  | .eith g .. => [.str "either", .int (g : Nat)]
  | .guard n s g .. => [.str "guard", .str n, .str s, .int (g : Nat)]
def Mk.back : Mk → AE → Dm → AS
  | .guard _ s _ p t, .fell _ v, sn => AS.give ⟨p, t, sn⟩ s v
  | m, _, sn => ⟨m.ps, m.ts, sn⟩
def seek (e : AE) : List Mk → Option (Mk × List Mk)
  | [] => none
  | m :: r => if m.takes e = true then some (m, r) else seek e r
inductive StopR (σ : AS) : List V → AE → Prop
  | wait : StopR σ [.str "wait"] .waits
  | throw {n s : Str} (hn : NameOk n) (hs : Sl s) : StopR σ [.str "throw", .str n, .str s] (.fell n (lk σ s))
inductive Run (rows : Rows) (bs : List Int) : Nat → Nat → List Mk → AS → Option AE × AS → Prop
  | lay {a : Nat} {M : List Mk} {σ : AS} (h : rows[a]? = some [.str "lay"]) : Run rows bs 0 a M σ (none, σ)
  | pl {n a : Nat} {M : List Mk} {σ : AS} {F : Option AE × AS} (p : Pt) (p4 : isP4 p = true) (ok : okP p) (h : rows[a]? = some (plainRow p)) (k : Run rows bs n (a + 1) M (plainS bs p σ) F) : Run rows bs (n + 1) a M σ F
  | jump {n a g : Nat} {M : List Mk} {σ : AS} {F : Option AE × AS} (h : rows[a]? = some [.str "jump", .int (g : Nat)]) (k : Run rows bs n g M σ F) : Run rows bs (n + 1) a M σ F
  | un {n a g : Nat} {M : List Mk} {σ : AS} {F : Option AE × AS} (s : Str) (hs : Sl s) (h : rows[a]? = some [.str "unless", .str s, .int (g : Nat)]) (k : Run rows bs n (if lk σ s = 0 then g else a + 1) M σ F) : Run rows bs (n + 1) a M σ F
  | settle {n a : Nat} {m : Mk} {M : List Mk} {σ : AS} {F : Option AE × AS} (h : rows[a]? = some [.str "settle"]) (k : Run rows bs n (a + 1) M σ F) : Run rows bs (n + 1) a (m :: M) σ F
  | eith {n a g : Nat} {M : List Mk} {σ : AS} {F : Option AE × AS} (hl : M.length < 60) (h : rows[a]? = some [.str "either", .int (g : Nat)]) (k : Run rows bs n (a + 1) (.eith g σ.ps σ.ts :: M) σ F) : Run rows bs (n + 1) a M σ F
  | guard {n a g : Nat} {M : List Mk} {σ : AS} {F : Option AE × AS} (nm s : Str) (hn : NameOk nm) (hs : Sl s) (hl : M.length < 60) (h : rows[a]? = some [.str "guard", .str nm, .str s, .int (g : Nat)]) (k : Run rows bs n (a + 1) (.guard nm s g σ.ps σ.ts :: M) σ F) : Run rows bs (n + 1) a M σ F
  | stop {a : Nat} {M : List Mk} {σ : AS} {r : List V} (e : AE) (hr : StopR σ r e) (h : rows[a]? = some r) (z : seek e M = none) : Run rows bs 0 a M σ (some e, σ)
  | caught {n a : Nat} {M M' : List Mk} {m : Mk} {σ : AS} {F : Option AE × AS} {r : List V} (e : AE) (hr : StopR σ r e) (h : rows[a]? = some r) (z : seek e M = some (m, M')) (k : Run rows bs n m.goal M' (m.back e σ.sn) F) : Run rows bs (n + 1) a M σ F
def Rn (rows : Rows) (bs : List Int) (a : Nat) (M : List Mk) (σ : AS) (F : Option AE × AS) : Prop := ∃ n, Run rows bs n a M σ F
def Unw (rows : Rows) (bs : List Int) (M : List Mk) (e : AE) (τ : AS) (F : Option AE × AS) : Prop :=
  match seek e M with
  | none => F = (some e, τ)
  | some (m, M') => Rn rows bs m.goal M' (m.back e τ.sn) F
def Aft (rows : Rows) (bs : List Int) (a : Nat) (M : List Mk) (r : Option AE × AS) (F : Option AE × AS) : Prop :=
  match r with
  | (none, τ) => Rn rows bs a M τ F
  | (some e, τ) => Unw rows bs M e τ F
def Seg (rs : Rows) (a : Nat) (sg : Rows) : Prop := ∀ i r, sg[i]? = some r → rs[a + i]? = some r
theorem Seg.left {rs a b : Rows} {f : Nat} (h : Seg rs f (a ++ b)) : Seg rs f a := fun i r hr => h i r (by rw [List.getElem?_append_left (List.getElem?_eq_some_iff.mp hr).1]; exact hr)
theorem Seg.right {rs a b : Rows} {f : Nat} (h : Seg rs f (a ++ b)) : Seg rs (f + a.length) b := fun i r hr => by
  have := h (a.length + i) r (by rw [List.getElem?_append_right (by omega), Nat.add_sub_cancel_left]; exact hr)
  rw [Nat.add_assoc]; exact this
theorem Seg.at0 {rs b : Rows} {r : List V} {f : Nat} (h : Seg rs f (r :: b)) : rs[f]? = some r := h 0 r rfl
theorem Seg.tail {rs b : Rows} {r : List V} {f : Nat} (h : Seg rs f (r :: b)) : Seg rs (f + 1) b := fun i r hr => by
  have := h (i + 1) r (by simpa using hr)
  rw [Nat.add_assoc, Nat.add_comm 1 i]; exact this
theorem Seg.cast {rs b : Rows} {f g : Nat} (h : Seg rs f b) (e : f = g) : Seg rs g b := e ▸ h
theorem two_seg {rs : Rows} {hd : List V} {one : Rows} {f : Nat} {o : Nat → Rows} (h : Seg rs f (twoM hd one f o)) :
    rs[f]? = some (hd ++ [.int ((f + one.length + 2 : Nat) : Int)]) ∧ Seg rs (f + 1) one ∧ rs[f + 1 + one.length]? = some [.str "jump", .int ((f + one.length + 2 + (o (f + one.length + 2)).length : Nat) : Int)] ∧ Seg rs (f + one.length + 2) (o (f + one.length + 2)) := by
  unfold twoM at h
  have h1 := h.left.left.left
  have h2 := h.left.left.right
  have h3 := h.left.right
  have h4 := h.right
  refine ⟨h1.at0, h2, ?_, ?_⟩
  · have := h3.at0
    rw [List.length_append, List.length_singleton] at this
    rw [← this]
    congr 1
    omega
  · refine h4.cast ?_
    simp only [List.length_append, List.length_singleton]
    omega
theorem Rn.cast {rows : Rows} {bs : List Int} {a b : Nat} {M : List Mk} {σ : AS} {F : Option AE × AS} (h : Rn rows bs a M σ F) (e : a = b) : Rn rows bs b M σ F := e ▸ h
theorem Aft.cast {rows : Rows} {bs : List Int} {a b : Nat} {M : List Mk} {σ F : Option AE × AS} (h : Aft rows bs a M σ F) (e : a = b) : Aft rows bs b M σ F := e ▸ h
section
variable {rows : Rows} {bs : List Int} {F : Option AE × AS}
mutual
theorem run_part : ∀ (p : Pt) (a : Nat) (M : List Mk) (σ : AS), okP p → M.length + ndP p ≤ 60 → Seg rows a (partRows p a) → Aft rows bs (a + lenP p) M (goP bs p σ) F → Rn rows bs a M σ F
  | .iff s ps os, a, M, σ, ok, nd, sg, h => by
    simp only [ndP] at nd
    rw [partRows] at sg
    obtain ⟨h1, h2, h3, h4⟩ := two_seg sg
    rw [rowsFrom_len] at h1 h3 h4
    rw [rowsFrom_len] at h3
    rw [goP] at h
    simp only [lenP] at h
    by_cases z : lk σ s = 0
    · rw [if_neg (fun k => k z)] at h
      obtain ⟨n, k⟩ := run_parts os (a + lenPs ps + 2) M σ ok.2.2 (by omega) h4 (h.cast (by omega))
      exact ⟨n + 1, .un s ok.1 h1 (by rw [if_pos z]; exact k)⟩
    · rw [if_pos z] at h
      have : Rn rows bs (a + 1) M σ F := by
        refine run_parts ps (a + 1) M σ ok.2.1 (by omega) h2 ?_
        generalize goPs bs ps σ = r at h
        match r, h with
        | (none, τ), h =>
          obtain ⟨n, k⟩ : Rn rows bs (a + (2 + lenPs ps + lenPs os)) M τ F := h
          exact ⟨n + 1, .jump h3 (by rw [show a + lenPs ps + 2 + lenPs os = a + (2 + lenPs ps + lenPs os) by omega]; exact k)⟩
        | (some e, τ), h => exact h
      obtain ⟨n, k⟩ := this
      exact ⟨n + 1, .un s ok.1 h1 (by rw [if_neg z]; exact k)⟩
  | .eith ps os, a, M, σ, ok, nd, sg, h => by
    simp only [ndP] at nd
    rw [partRows] at sg
    obtain ⟨h1, h2, h3, h4⟩ := two_seg sg
    rw [List.length_append, List.length_singleton, rowsFrom_len] at h1 h3 h4
    rw [rowsFrom_len] at h3
    have h5 := h2.right.at0
    rw [rowsFrom_len] at h5
    rw [goP] at h
    simp only [lenP] at h
    have : Rn rows bs (a + 1) (.eith (a + (lenPs ps + 1) + 2) σ.ps σ.ts :: M) σ F := by
      refine run_parts ps (a + 1) _ σ ok.1 (by simp only [List.length_cons]; omega) h2.left ?_
      generalize goPs bs ps σ = r at h
      match r, h with
      | (none, τ), h =>
        obtain ⟨n, k⟩ : Rn rows bs (a + (3 + lenPs ps + lenPs os)) M τ F := h
        refine ⟨n + 2, .settle h5 (.jump (g := a + (lenPs ps + 1) + 2 + lenPs os) (by rw [← h3]; congr 1) ?_)⟩
        rw [show a + (lenPs ps + 1) + 2 + lenPs os = a + (3 + lenPs ps + lenPs os) by omega]
        exact k
      | (some .waits, τ), h => exact run_parts os (a + (lenPs ps + 1) + 2) M _ ok.2 (by omega) h4 (h.cast (by omega))
      | (some (.fell m v), τ), h => exact h
    obtain ⟨n, k⟩ := this
    exact ⟨n + 1, .eith (by omega) h1 k⟩
  | .tryy ps nm s os, a, M, σ, ok, nd, sg, h => by
    simp only [ndP] at nd
    rw [partRows] at sg
    obtain ⟨h1, h2, h3, h4⟩ := two_seg sg
    rw [List.length_append, List.length_singleton, rowsFrom_len] at h1 h3 h4
    rw [rowsFrom_len] at h3
    have h5 := h2.right.at0
    rw [rowsFrom_len] at h5
    rw [goP] at h
    simp only [lenP] at h
    have : Rn rows bs (a + 1) (.guard nm s (a + (lenPs ps + 1) + 2) σ.ps σ.ts :: M) σ F := by
      refine run_parts ps (a + 1) _ σ ok.1 (by simp only [List.length_cons]; omega) h2.left ?_
      generalize goPs bs ps σ = r at h
      match r, h with
      | (none, τ), h =>
        obtain ⟨n, k⟩ : Rn rows bs (a + (3 + lenPs ps + lenPs os)) M τ F := h
        refine ⟨n + 2, .settle h5 (.jump (g := a + (lenPs ps + 1) + 2 + lenPs os) (by rw [← h3]; congr 1) ?_)⟩
        rw [show a + (lenPs ps + 1) + 2 + lenPs os = a + (3 + lenPs ps + lenPs os) by omega]
        exact k
      | (some .waits, τ), h => exact h
      | (some (.fell m v), τ), h =>
        simp only at h
        show Unw rows bs _ _ _ _
        unfold Unw
        by_cases z : m = nm
        · rw [if_pos z] at h
          rw [seek, if_pos (by simp [Mk.takes, z])]
          exact run_parts os (a + (lenPs ps + 1) + 2) M _ ok.2.2.2 (by omega) h4 (h.cast (by omega))
        · rw [if_neg z] at h
          rw [seek, if_neg (by simp [Mk.takes, z])]
          exact h
    obtain ⟨n, k⟩ := this
    exact ⟨n + 1, .guard nm s ok.2.1 ok.2.2.1 (by omega) h1 k⟩
  | .throw n s, a, M, σ, ok, nd, sg, h => by
    rw [partRows] at sg
    have h1 := sg.at0
    rw [goP] at h
    have h : Unw rows bs M (.fell n (lk σ s)) σ F := h
    unfold Unw at h
    generalize hz : seek (.fell n (lk σ s)) M = z at h
    match z, hz, h with
    | none, hz, h => exact ⟨0, h ▸ .stop _ (.throw ok.1 ok.2) h1 hz⟩
    | some (m, M'), hz, ⟨k, h⟩ => exact ⟨k + 1, .caught _ (.throw ok.1 ok.2) h1 hz h⟩
  | .wait, a, M, σ, ok, nd, sg, h => by
    rw [partRows] at sg
    have h1 := sg.at0
    rw [goP] at h
    have h : Unw rows bs M .waits σ F := h
    unfold Unw at h
    generalize hz : seek .waits M = z at h
    match z, hz, h with
    | none, hz, h => exact ⟨0, h ▸ .stop _ .wait h1 hz⟩
    | some (m, M'), hz, ⟨k, h⟩ => exact ⟨k + 1, .caught _ .wait h1 hz h⟩
  | .let_ s v, a, M, σ, ok, nd, sg, h => by
    rw [partRows] at sg
    rw [goP] at h
    obtain ⟨n, k⟩ : Rn rows bs (a + 1) M _ F := h
    exact ⟨n + 1, .pl (.let_ s v) rfl ok sg.at0 k⟩
  | .rk w s o t, a, M, σ, ok, nd, sg, h => by
    rw [partRows] at sg
    rw [goP] at h
    obtain ⟨n, k⟩ : Rn rows bs (a + 1) M _ F := h
    exact ⟨n + 1, .pl (.rk w s o t) rfl ok sg.at0 k⟩
  | .take s q, a, M, σ, ok, nd, sg, h => by
    rw [partRows] at sg
    rw [goP] at h
    obtain ⟨n, k⟩ : Rn rows bs (a + 1) M _ F := h
    exact ⟨n + 1, .pl (.take s q) rfl ok sg.at0 k⟩
  | .put q s, a, M, σ, ok, nd, sg, h => by
    rw [partRows] at sg
    rw [goP] at h
    obtain ⟨n, k⟩ : Rn rows bs (a + 1) M _ F := h
    exact ⟨n + 1, .pl (.put q s) rfl ok sg.at0 k⟩
theorem run_parts : ∀ (ps : List Pt) (a : Nat) (M : List Mk) (σ : AS), okPs ps → M.length + ndPs ps ≤ 60 → Seg rows a (rowsFrom ps a) → Aft rows bs (a + lenPs ps) M (goPs bs ps σ) F → Rn rows bs a M σ F
  | [], a, M, σ, ok, nd, sg, h => by rw [goPs] at h; exact h
  | p :: r, a, M, σ, ok, nd, sg, h => by
    simp only [ndPs] at nd
    rw [rowsFrom] at sg
    have s1 := sg.left
    have s2 := sg.right
    rw [partRows_len] at s2 
    refine run_part p a M σ ok.1 (by omega) s1 ?_
    rw [goPs, lenPs] at h
    generalize goP bs p σ = q at h
    match q, h with
    | (none, τ), h => exact run_parts r (a + lenP p) M τ ok.2 (by omega) s2 (h.cast (by omega))
    | (some e, τ), h => exact h
end
end
theorem run_deed {bs : List Int} {ps : List Pt} {σ : AS} (ok : okPs ps) (nd : ndPs ps ≤ 60) : ∃ n, Run (rowsFrom ps 0 ++ [[.str "lay"]]) bs n 0 [] σ (goPs bs ps σ) := by
  refine run_parts ps 0 [] σ ok (by simpa using nd) (fun i r hr => ?_) ?_
  · rw [Nat.zero_add, List.getElem?_append_left (List.getElem?_eq_some_iff.mp hr).1]; exact hr
  · generalize hq : goPs bs ps σ = q
    match q with
    | (none, τ) =>
      refine ⟨0, .lay ?_⟩
      rw [List.getElem?_append_right (by rw [rowsFrom_len]; omega), rowsFrom_len, Nat.zero_add, Nat.sub_self]; rfl
    | (some e, τ) => exact rfl
def slDf : Nat → List Int → List (Key × D)
  | _, [] => []
  | k, v :: r => (.inr (lt1 (97 + k)), .raw (.int v)) :: slDf (k + 1) r
abbrev slD (ps : List Int) : List (Key × D) := slDf 0 ps
theorem lt1_inj {a b : Nat} (h : lt1 a = lt1 b) : a = b := by
  unfold lt1 at h
  injection h with h
  injection h with h
  injection h
theorem key_ne {a b : Nat} (h : a ≠ b) : ¬ ((Sum.inr (lt1 (97 + a)) : Key) = Sum.inr (lt1 (97 + b))) := fun z => h (by
  injection z with z
  have := lt1_inj z
  omega)
theorem slDf_len : ∀ (ps : List Int) (k : Nat), (slDf k ps).length = ps.length
  | [], _ => rfl
  | v :: r, k => by rw [slDf, List.length_cons, List.length_cons, slDf_len r]
theorem valD_slf : ∀ (ps : List Int) (k i : Nat), valD (slDf k ps) (.inr (lt1 (97 + (k + i))) : Key) = ps[i]?.map D.int
  | [], k, i => by simp [slDf, valD]
  | v :: r, k, 0 => by
    unfold valD
    rw [slDf, List.find?_cons_of_pos (by simp)]
    rfl
  | v :: r, k, i + 1 => by
    have ih := valD_slf r (k + 1) i
    unfold valD at ih ⊢
    rw [slDf, List.find?_cons_of_neg (by simp only [decide_eq_true_eq]; exact key_ne (by omega)), show k + (i + 1) = k + 1 + i by omega, ih]
    rfl
theorem any_slf : ∀ (ps : List Int) (k i : Nat), ((slDf k ps).any fun kv => decide (kv.1 = (.inr (lt1 (97 + (k + i))) : Key))) = decide (i < ps.length)
  | [], k, i => by simp [slDf]
  | v :: r, k, 0 => by simp [slDf]
  | v :: r, k, i + 1 => by
    have ih := any_slf r (k + 1) i
    rw [slDf, List.any_cons, show k + (i + 1) = k + 1 + i by omega, ih, decide_eq_false (key_ne (by omega)), Bool.false_or, List.length_cons]
    exact decide_eq_decide.mpr (by omega)
theorem map_slf (w : D) : ∀ (ps : List Int) (k i : Nat) (n : Int), w = .raw (.int n) → (slDf k ps).map (fun kv => if kv.1 = (.inr (lt1 (97 + (k + i))) : Key) then (kv.1, w) else kv) = slDf k (ps.set i n)
  | [], k, i, n, e => by simp [slDf]
  | v :: r, k, 0, n, e => by
    subst e
    rw [List.set_cons_zero, slDf, slDf, List.map_cons, if_pos (by simp)]
    congr 1
    have : ∀ (r : List Int) (j : Nat), k < j → (slDf j r).map (fun kv => if kv.1 = (.inr (lt1 (97 + (k + 0))) : Key) then (kv.1, D.raw (.int n)) else kv) = slDf j r := by
      intro r
      induction r with
      | nil => intro j h; rfl
      | cons v r ih =>
        intro j h
        rw [slDf, List.map_cons, if_neg (key_ne (by omega)), ih (j + 1) (by omega)]
    exact this r (k + 1) (by omega)
  | v :: r, k, i + 1, n, e => by
    rw [List.set_cons_succ, slDf, slDf, List.map_cons, if_neg (key_ne (by omega)), show k + (i + 1) = k + 1 + i by omega, map_slf w r (k + 1) i n e]
theorem slDf_app : ∀ (ps : List Int) (k : Nat) (v : Int), slDf k (ps ++ [v]) = slDf k ps ++ [(.inr (lt1 (97 + (k + ps.length))), .raw (.int v))]
  | [], k, v => rfl
  | u :: r, k, v => by
    rw [List.cons_append, slDf, slDf, slDf_app r, List.cons_append, List.length_cons, show k + 1 + r.length = k + (r.length + 1) by omega]
theorem valD_sl {ps : List Int} (h : ps.length = 8) {s : Str} (hs : Sl s) : valD (slD ps) (.inr s : Key) = some (.raw (.int (ps.getD (ix s) 0))) := by
  obtain ⟨k, hk, rfl⟩ := hs
  have := valD_slf ps 0 k
  rw [Nat.zero_add] at this
  rw [ix_lt, this, List.getD_eq_getElem?_getD, List.getElem?_eq_getElem (by omega)]
  rfl
theorem putKD_sl {ps : List Int} (h : ps.length = 8) {s : Str} (hs : Sl s) (v : Int) : putKD (slD ps) (.inr s : Key) (.raw (.int v)) = slD (ps.set (ix s) v) := by
  obtain ⟨k, hk, rfl⟩ := hs
  have h1 := any_slf ps 0 k
  have h2 := map_slf (.raw (.int v)) ps 0 k v rfl
  rw [Nat.zero_add] at h1 h2
  unfold putKD
  rw [ix_lt, h1, if_pos (decide_eq_true (by omega))]
  exact h2
theorem putKD_slN (ps : List Int) (v : Int) : putKD (slD ps) (.inr (lt1 (97 + ps.length)) : Key) (.raw (.int v)) = slD (ps ++ [v]) := by
  have h1 := any_slf ps 0 ps.length
  rw [Nat.zero_add] at h1
  unfold putKD
  rw [h1, if_neg (by simp)]
  have := slDf_app ps 0 v
  rw [Nat.zero_add] at this
  exact this.symm
end
set_option Elab.async false
set_option linter.all false
set_option maxRecDepth 100000
set_option maxHeartbeats 400000
set_option autoImplicit false
section
open PySem L2
local macro_rules | `(tactic| walk_at "sc") => `(tactic| first | assumption | decide | omega | (unfold CMul; omega) | (unfold CDiv; omega) | (unfold CPow; decide) | (unfold CDiv; decide))
local macro_rules | `(tactic| walk_at "go") => `(tactic| (repeat (first | walk_at "step" | walk_at "callx")))
local macro_rules | `(tactic| walk_at "len") => `(tactic| first
  | (obtain ⟨rfl, _⟩ := h; rfl) | (obtain ⟨_, rfl, _⟩ := h; rfl) | (obtain ⟨_, _, rfl, _⟩ := h; rfl) | (obtain ⟨_, _, _, rfl, _⟩ := h; rfl) | (obtain ⟨_, _, _, _, rfl, _⟩ := h; rfl)
  | (obtain ⟨_, _, _, _, _, rfl, _⟩ := h; rfl) | (obtain ⟨_, _, _, _, _, _, rfl, _⟩ := h; rfl) | (obtain ⟨_, _, _, _, _, _, _, rfl, _⟩ := h; rfl) | (obtain ⟨_, _, _, _, _, _, _, _, rfl, _⟩ := h; rfl)
  | (obtain ⟨_, _, _, _, _, _, _, _, _, rfl, _⟩ := h; rfl) | (obtain ⟨_, _, _, _, _, _, _, _, _, _, rfl, _⟩ := h; rfl))
def mkD (m : Mk) (p q : Addr) : D := .tup [.raw (m.row.headD .non), .raw (m.row.tail.headD .non), rwD m.row, .ptr p, .ptr q]
theorem mkD_e {g : Nat} {ps : List Int} {ts : List Dm} {p q : Addr} : mkD (.eith g ps ts) p q = .tup [.raw (.str "either"), .raw (.int (g : Nat)), rwD [.str "either", .int (g : Nat)], .ptr p, .ptr q] := rfl
theorem mkD_g {n s : Str} {g : Nat} {ps : List Int} {ts : List Dm} {p q : Addr} : mkD (.guard n s g ps ts) p q = .tup [.raw (.str "guard"), .raw (.str n), rwD [.str "guard", .str n, .str s, .int (g : Nat)], .ptr p, .ptr q] := rfl
structure OkM (m : Mk) : Prop where
  s : OkS ⟨m.ps, m.ts, []⟩ 1
  g : ∀ n s g p t, m = .guard n s g p t → Sl s
inductive MkA (W : Wd) (ban : List Addr) : List D → List Mk → Prop
  | nil : MkA W ban [] []
  | cons {l : List D} {M : List Mk} {m : Mk} {p q : Addr} (h : MkA W ban l M) (hp : W p = some (.dct (slD m.ps))) (hq : W q = some (.dct (dmD (m.ts.getLastD [])))) (np : p ∉ ban) (nq : q ∉ ban) (ok : OkM m) : MkA W ban (l ++ [mkD m p q]) (m :: M)
theorem MkA.mono {W W' : Wd} {ban ban' : List Addr} {l : List D} {M : List Mk} (h : MkA W ban l M) (k : ∀ p c, W p = some c → p ∉ ban → W' p = some c ∧ p ∉ ban') : MkA W' ban' l M := by
  induction h with
  | nil => exact .nil
  | cons h hp hq np nq ok ih => exact .cons ih (k _ _ hp np).1 (k _ _ hq nq).1 (k _ _ hp np).2 (k _ _ hq nq).2 ok
theorem MkA.len {W : Wd} {ban : List Addr} {l : List D} {M : List Mk} (h : MkA W ban l M) : l.length = M.length := by
  induction h with
  | nil => rfl
  | cons h hp hq np nq ok ih => rw [List.length_append, List.length_singleton, List.length_cons, ih]
theorem MkA.last {W : Wd} {ban : List Addr} {l : List D} {M : List Mk} (h : MkA W ban l M) (z : 0 < l.length) : ∃ l1 m p q M', l = l1 ++ [mkD m p q] ∧ M = m :: M' ∧ MkA W ban l1 M' ∧ W p = some (.dct (slD m.ps)) ∧ W q = some (.dct (dmD (m.ts.getLastD []))) ∧ p ∉ ban ∧ q ∉ ban ∧ OkM m := by
  cases h with
  | nil => exact absurd z (by decide)
  | cons h hp hq np nq ok => exact ⟨_, _, _, _, _, rfl, rfl, h, hp, hq, np, nq, ok⟩
def p_l_mark (_ : Ad) : PF := fun ds W Q => ∃ (x : D) (r : List V), ds = [x, rwD r] ∧ ∃ (l : List D) (M : List Mk) (ban : List Addr) (e : AE) (σ : AS), SeqD W x l ∧ MkA W ban l M ∧ StopR σ r e ∧ l.length ≤ 62 ∧ (seek e M = none → Q (.int (-1)) W) ∧
  ∀ m M' l1 p q, seek e M = some (m, M') → m.takes e = true → MkA W ban l1 M' → l[l1.length]? = some (mkD m p q) → l.take l1.length = l1 → W p = some (.dct (slD m.ps)) → W q = some (.dct (dmD (m.ts.getLastD []))) → p ∉ ban → q ∉ ban → OkM m → Q (.int (l1.length : Nat)) W
def p_l_end (_ : Ad) : PF := fun ds W Q => ∃ (r : List V) (x : D), ds = [rwD r, x] ∧ ∃ (σ : AS) (e : AE), StopR σ r e ∧ DctD W x (slD σ.ps) ∧ σ.ps.length = 8 ∧ Q (endD (some e)) W
def p_l_plain_row (_ : Ad) : PF := fun ds W Q => ∃ (p : Pt) (bs : List Int) (sa sl wr : Addr), ds = [rwD (plainRow p), .lst (bs.map D.int), .ptr sa, .ptr sl, .ptr wr] ∧ ∃ (ps : List Int) (t sn : Dm), W sa = some (.dct (dmD sn)) ∧ W sl = some (.dct (slD ps)) ∧ W wr = some (.dct (dmD t)) ∧ sa ≠ wr ∧ sa ≠ sl ∧ wr ≠ sl ∧ OkS ⟨ps, [t], sn⟩ 1 ∧ OkB bs ∧ okP p ∧ isP4 p = true ∧
  Q (.bl true) (wset (wset (wset W sa (.dct (dmD (plainS bs p ⟨ps, [t], sn⟩).sn))) sl (.dct (slD (plainS bs p ⟨ps, [t], sn⟩).ps))) wr (.dct (dmD ((plainS bs p ⟨ps, [t], sn⟩).ts.getLastD []))))
def p_l_gone (_ : Ad) : PF := fun ds W Q => ∃ (rows : Rows) (bs first : List Int) (F : Addr), ds = [.lst (rowsL rows), .lst (bs.map D.int), .ptr F] ∧ W F = some (.dct (slD first)) ∧ first.length = 8 ∧ (∀ v ∈ first, Nm v) ∧ OkB bs ∧ ∃ n e τ, Run rows bs n 0 [] ⟨first, [[]], []⟩ (e, τ) ∧ Q (dueD e τ first) W
abbrev sp_l_mark (d : Ad) : Sp := lift d.K (p_l_mark d)
abbrev sp_l_end (d : Ad) : Sp := lift d.K (p_l_end d)
abbrev sp_l_plain_row (d : Ad) : Sp := lift d.K (p_l_plain_row d)
abbrev sp_l_gone (d : Ad) : Sp := lift d.K (p_l_gone d)
def sp_law (d : Ad) : Sp := spLaw d.K
abbrev N_l_mark : List Str := ["_law_marks", "_law_row", "_law_k"]
def t_l_mark (d : Ad) : TS :=
  (tSeq (tFor (iRng3 (tCons (aSub (tCB (Evl.rLenS d.K) (tCons (tVar 0) tNil)) (tC (.int 1))) (tCons (aNeg (tC (.int 1))) (tCons (aNeg (tC (.int 1))) tNil)))) (gName 2) (tSeq (tIfS (tAnd (tTest (tOp rEq (tOp (rIxT d.K) (tVar 1) (tC (.int 0))) (tC (.str "wait")))) (tTest (tOp rEq (tOp (rIxT d.K) (tOp (rIxL d.K) (tVar 0) (tVar 2)) (tC (.int 0))) (tC (.str "either"))))) (tRet (tVar 2)) tNext)
  (tIfS (tAnd (tTest (tOp rEq (tOp (rIxT d.K) (tVar 1) (tC (.int 0))) (tC (.str "throw")))) (tAnd (tTest (tOp rEq (tOp (rIxT d.K) (tOp (rIxL d.K) (tVar 0) (tVar 2)) (tC (.int 0))) (tC (.str "guard")))) (tTest (tOp rEq (tOp (rIxT d.K) (tOp (rIxL d.K) (tVar 0) (tVar 2)) (tC (.int 1))) (tOp (rIxT d.K) (tVar 1) (tC (.int 1))))))) (tRet (tVar 2)) tNext)))
  (tRet (aNeg (tC (.int 1)))))
abbrev N_l_end : List Str := ["_law_row", "_law_slots_here"]
def t_l_end (d : Ad) : TS :=
  (tSeq (tIfS (tTest (tOp rEq (tOp (rIxT d.K) (tVar 0) (tC (.int 0))) (tC (.str "wait")))) (tRet (tTup (tCons (tC (.str "waits")) tNil))) tNext)
  (tRet (tTup (tCons (tC (.str "fell")) (tCons (tOp (rIxT d.K) (tVar 0) (tC (.int 1))) (tCons (tDGet (tVar 1) (tOp (rIxT d.K) (tVar 0) (tC (.int 2)))) tNil))))))
abbrev N_l_plain_row : List Str := ["_law_row", "_law_boxes_here", "_law_saw", "_law_slots_here", "_law_written", "_law_box"]
def t_l_plain_row (d : Ad) : TS :=
  (Evl.tCut (tIfS (tTest (tOp rEq (tOp (rIxT d.K) (tVar 0) (tC (.int 0))) (tC (.str "let")))) (sDPut (tVar 3) (tOp (rIxT d.K) (tVar 0) (tC (.int 1))) (tOp (rIxT d.K) (tVar 0) (tC (.int 2)))) (tIfS (tTest (tOp rEq (tOp (rIxT d.K) (tVar 0) (tC (.int 0))) (tC (.str "take")))) (tSeq (tAsg (aMod (tDGet (tVar 3) (tOp (rIxT d.K) (tVar 0) (tC (.int 2)))) (tCB (Evl.rLenS d.K) (tCons (tVar 1) tNil))) (gName 5))
  (tSeq (tIfS (tB (tDNotIn (tVar 5) (tVar 4))) (sDPut (tVar 2) (tVar 5) (tOp (rIxL d.K) (tVar 1) (tVar 5))) tNext)
  (sDPut (tVar 3) (tOp (rIxT d.K) (tVar 0) (tC (.int 1))) (tDGet2 (tVar 4) (tVar 5) (tOp (rIxL d.K) (tVar 1) (tVar 5)))))) (tIfS (tTest (tOp rEq (tOp (rIxT d.K) (tVar 0) (tC (.int 0))) (tC (.str "put")))) (sDPut (tVar 4) (aMod (tDGet (tVar 3) (tOp (rIxT d.K) (tVar 0) (tC (.int 1)))) (tCB (Evl.rLenS d.K) (tCons (tVar 1) tNil))) (tDGet (tVar 3) (tOp (rIxT d.K) (tVar 0) (tC (.int 2))))) (tIfS (tAnd (tTest (tOp rEq (tCB (Evl.rLenS d.K) (tCons (tVar 0) tNil)) (tC (.int 4)))) (tTest (tOp (rIn d.K false) (tOp (rIxT d.K) (tVar 0) (tC (.int 0))) (tTup (tCons (tC (.str "plus")) (tCons (tC (.str "minus")) (tCons (tC (.str "times")) (tCons (tC (.str "less")) (tCons (tC (.str "same")) tNil))))))))) (sDPut (tVar 3) (tOp (rIxT d.K) (tVar 0) (tC (.int 1))) (tCall (sp_l_sum d) [] E0 (tCons (tOp (rIxT d.K) (tVar 0) (tC (.int 0))) (tCons (tDGet (tVar 3) (tOp (rIxT d.K) (tVar 0) (tC (.int 2)))) (tCons (tDGet (tVar 3) (tOp (rIxT d.K) (tVar 0) (tC (.int 3)))) tNil))))) tNext))))
  (tRet (tAndV (tOp rGt (tCB (Evl.rLenS d.K) (tCons (tVar 0) tNil)) (tC (.int 0))) (tOp (rIn d.K false) (tOp (rIxT d.K) (tVar 0) (tC (.int 0))) (tTup (tCons (tC (.str "let")) (tCons (tC (.str "take")) (tCons (tC (.str "put")) (tCons (tC (.str "plus")) (tCons (tC (.str "minus")) (tCons (tC (.str "times")) (tCons (tC (.str "less")) (tCons (tC (.str "same")) tNil)))))))))))))
abbrev N_l_gone : List Str := ["_law_rows", "_law_boxes_here", "_law_first", "_law_slots_here", "_law_written", "_law_saw", "_law_marks", "_law_at", "_law_row", "_law_k", "_law_end_here", "_law_sign"]
def t_l_gone (d : Ad) : TS :=
  (tSeq (tAsg (tCB rDCopy (tCons (tVar 2) tNil)) (gName 3))
  (tSeq (tAsg tDNewK (gName 4))
  (tSeq (tAsg tDNewK (gName 5))
  (tSeq (tAsg (tLst tNil) (gName 6))
  (tSeq (tAsg (tC (.int 0)) (gName 7))
  (tSeq (tWhile (tTest (tChain rLe rLt (tC (.int 0)) (tVar 7) (tCB (Evl.rLenS d.K) (tCons (tVar 0) tNil)))) (tSeq (tAsg (tOp (rIxL d.K) (tVar 0) (tVar 7)) (gName 8))
  (tSeq (tAsg (aAdd (tVar 7) (tC (.int 1))) (gName 7))
  (tSeq (tIfS (tTest (tOp rEq (tOp (rIxT d.K) (tVar 8) (tC (.int 0))) (tC (.str "lay")))) (tRet (tTup (tCons (tTup (tCons (tC (.str "done")) tNil)) (tCons (tCall (sp_l_pairs d) [] E0 (tCons (tVar 5) tNil)) (tCons (tCall (sp_l_pairs d) [] E0 (tCons (tVar 4) tNil)) (tCons (tLc (iStr (tC (.str "abcdefgh"))) (gName 11) tYes (tDGet (tVar 3) (tVar 11)) [11]) tNil)))))) tNext)
  (tIfS (tTest (tOp rEq (tOp (rIxT d.K) (tVar 8) (tC (.int 0))) (tC (.str "jump")))) (tAsg (tOp (rIxT d.K) (tVar 8) (tC (.int 1))) (gName 7)) (tIfS (tTest (tOp rEq (tOp (rIxT d.K) (tVar 8) (tC (.int 0))) (tC (.str "unless")))) (tAsg (tIf (tTest (tOp rEq (tDGet (tVar 3) (tOp (rIxT d.K) (tVar 8) (tC (.int 1)))) (tC (.int 0)))) (tOp (rIxT d.K) (tVar 8) (tC (.int 2))) (tVar 7)) (gName 7)) (tIfS (tTest (tOp rEq (tOp (rIxT d.K) (tVar 8) (tC (.int 0))) (tC (.str "settle")))) (tDrop (tBM0 d.K "list" rPop (tVar 6))) (tIfS (tOr (tTest (tOp rEq (tOp (rIxT d.K) (tVar 8) (tC (.int 0))) (tC (.str "either")))) (tTest (tOp rEq (tOp (rIxT d.K) (tVar 8) (tC (.int 0))) (tC (.str "guard"))))) (tDrop (tBM d.K "list" rAppend (tVar 6) (tCons (tTup (tCons (tOp (rIxT d.K) (tVar 8) (tC (.int 0))) (tCons (tOp (rIxT d.K) (tVar 8) (tC (.int 1))) (tCons (tVar 8) (tCons (tCB rDCopy (tCons (tVar 3) tNil)) (tCons (tCB rDCopy (tCons (tVar 4) tNil)) tNil)))))) tNil))) (tIfS (tOr (tTest (tOp rEq (tOp (rIxT d.K) (tVar 8) (tC (.int 0))) (tC (.str "wait")))) (tTest (tOp rEq (tOp (rIxT d.K) (tVar 8) (tC (.int 0))) (tC (.str "throw"))))) (tSeq (tAsg (tCall (sp_l_mark d) [] E0 (tCons (tVar 6) (tCons (tVar 8) tNil))) (gName 9))
  (tSeq (tIfS (tTest (tOp rLt (tVar 9) (tC (.int 0)))) (tRet (tTup (tCons (tCall (sp_l_end d) [] E0 (tCons (tVar 8) (tCons (tVar 3) tNil))) (tCons (tCall (sp_l_pairs d) [] E0 (tCons (tVar 5) tNil)) (tCons (tLst tNil) (tCons (tLc (iStr (tC (.str "abcdefgh"))) (gName 11) tYes (tDGet (tVar 2) (tVar 11)) [11]) tNil)))))) tNext)
  (tSeq (tAsg (tCall (sp_l_end d) [] E0 (tCons (tVar 8) (tCons (tVar 3) tNil))) (gName 10))
  (tSeq (tAsg (tCB rDCopy (tCons (tOp (rIxT d.K) (tOp (rIxL d.K) (tVar 6) (tVar 9)) (tC (.int 3))) tNil)) (gName 3))
  (tSeq (tAsg (tCB rDCopy (tCons (tOp (rIxT d.K) (tOp (rIxL d.K) (tVar 6) (tVar 9)) (tC (.int 4))) tNil)) (gName 4))
  (tSeq (tAsg (tOp (rIxT d.K) (tOp (rIxT d.K) (tOp (rIxL d.K) (tVar 6) (tVar 9)) (tC (.int 2))) (aNeg (tC (.int 1)))) (gName 7))
  (tSeq (tIfS (tTest (tOp rEq (tOp (rIxT d.K) (tVar 8) (tC (.int 0))) (tC (.str "throw")))) (sDPut (tVar 3) (tOp (rIxT d.K) (tOp (rIxT d.K) (tOp (rIxL d.K) (tVar 6) (tVar 9)) (tC (.int 2))) (tC (.int 2))) (tOp (rIxT d.K) (tVar 10) (tC (.int 2)))) tNext)
  (tAsg (tSl (rSlL d.K) (tVar 6) tNoPart (tPart (tVar 9))) (gName 6))))))))) (tIfS (tNot (tB (tCall (sp_l_plain_row d) [] E0 (tCons (tVar 8) (tCons (tVar 1) (tCons (tVar 5) (tCons (tVar 3) (tCons (tVar 4) tNil)))))))) (tRet (tC .non)) tNext))))))))))
  (tRet (tC .non))))))))
abbrev N_law : List Str := ["_law_script", "_law_names_here", "_law_at", "_law_cells", "_law_deed", "_law_boxes_here", "_law_slots_here", "_law_first", "_law_k", "_law_due"]
def t_law (d : Ad) : TS :=
  (tSeq (tAsg (tCall (sp_l_names d) [] E0 (tCons (tCB (rSum d.K) (tCons (tSl (rSlL d.K) (tVar 0) tNoPart (tPart (tC (.int 1)))) tNil)) tNil)) (gName 1))
  (tSeq (tFor (iRng3 (tCons (tC (.int 0)) (tCons (tCB Evl.rMax2 (tCons (tC (.int 1)) (tCons (tCB (Evl.rLenS d.K) (tCons (tVar 0) tNil)) tNil))) (tCons (tC (.int 12)) tNil)))) (gName 2) (tSeq (tAsg (tSl (rSlL d.K) (tVar 0) (tPart (tVar 2)) (tPart (aAdd (tVar 2) (tC (.int 12))))) (gName 3))
  (tSeq (tAsg (tCall (sp_l_made d) [] E0 (tCons (tCall (sp_l_tree d) [] E0 (tCons (tVar 3) (tCons (tC (.int 3)) (tCons (tVar 1) tNil)))) tNil)) (gName 4))
  (tSeq (tAsg (tCall (sp_l_boxes d) [] E0 (tCons (aAdd (tCB (rSum d.K) (tCons (tSl (rSlL d.K) (tVar 3) (tPart (tC (.int 1))) (tPart (tC (.int 2)))) tNil)) (tVar 2)) tNil)) (gName 5))
  (tSeq (tAsg (tCall (sp_l_slots d) [] E0 (tCons (aAdd (tCB (rSum d.K) (tCons (tSl (rSlL d.K) (tVar 3) tNoPart (tPart (tC (.int 1)))) tNil)) (tVar 2)) tNil)) (gName 6))
  (tSeq (tAsg tDNewK (gName 7))
  (tSeq (tFor (iRng1 (tCons (tC (.int 8)) tNil)) (gName 8) (sDPut (tVar 7) (tOp rIxS (tC (.str "abcdefgh")) (tVar 8)) (tOp (rIxL d.K) (tVar 6) (tVar 8))))
  (tSeq (tAsg (tCall (sp_l_gone d) [] E0 (tCons (tCall (sp_rows_of d) [] E0 (tCons (tVar 4) tNil)) (tCons (tVar 5) (tCons (tVar 7) tNil)))) (gName 9))
  (tIfS (tOr (tTest (tOp rIsN (tVar 9) (tC .non))) (tNot (tB (tCall (sp_l_alike d) [] E0 (tCons (tCall (sp_alone d) [] E0 (tCons (tVar 4) (tCons (tCB (rListOf d.K) (tCons (tVar 5) tNil)) (tCons (tCB (rListOf d.K) (tCons (tVar 6) tNil)) tNil)))) (tCons (tVar 9) tNil)))))) (tRet (tC (.bl false))) tNext)))))))))
  (tRet (tC (.bl true)))))
local macro_rules | `(tactic| walk_at "callm") => `(tactic| first | with_reducible refine' (we_callF (p := p_l_names _) ?_) | with_reducible refine' (we_callF (p := p_rows_of _) ?_) | with_reducible refine' (we_callF (p := p_by_boxes _) ?_))
theorem rgcD {m : Nat} (h : m ≤ 63) : RgC (((m : Nat) : Int) - 1) (-1) (-1) m := by
  have z : ∀ m : Fin 64, Builtin.Range.small (((m : Nat) : Int) - 1) (-1) (-1) = true ∧ Builtin.Range.rangeSize (((m : Nat) : Int) - 1) (-1) (-1) = (m : Nat) := by decide +kernel
  exact ⟨by decide, by decide, (z ⟨m, by omega⟩).1, (z ⟨m, by omega⟩).2⟩
theorem rgc12 {m : Nat} (h : m ≤ 63) : RgC 0 (m : Nat) 12 ((m + 11) / 12) := by
  refine ⟨by decide, by decide, ?_, ?_⟩
  · have z : ∀ m : Fin 64, Builtin.Range.small 0 ((m : Nat) : Int) 12 = true := by decide +kernel
    exact z ⟨m, by omega⟩
  · rw [PyProof.Rows.rangeSize_pos (by decide) (by omega)]
    omega
structure Gw (W W' : Wd) (R T S L F : Addr) (l : List D) (M : List Mk) (σ : AS) (first : List Int) : Prop where
  r : W' R = some (.dct (slD σ.ps))
  t : W' T = some (.dct (dmD (σ.ts.getLastD [])))
  s : W' S = some (.dct (dmD σ.sn))
  lm : W' L = some (.lst l)
  ma : MkA W' [R, T, S, L] l M
  nr : W R = none
  nt : W T = none
  ns : W S = none
  nl : W L = none
  sub : Sub W W'
  rt : R ≠ T
  rs : R ≠ S
  ts : T ≠ S
  f : W F = some (.dct (slD first))
theorem Gw.lr {W W' : Wd} {R T S L F : Addr} {l : List D} {M : List Mk} {σ : AS} {first : List Int} (g : Gw W W' R T S L F l M σ first) : L ≠ R := fun z => by have := g.lm; rw [z, g.r] at this; cases this
theorem Gw.lt {W W' : Wd} {R T S L F : Addr} {l : List D} {M : List Mk} {σ : AS} {first : List Int} (g : Gw W W' R T S L F l M σ first) : L ≠ T := fun z => by have := g.lm; rw [z, g.t] at this; cases this
theorem Gw.ls {W W' : Wd} {R T S L F : Addr} {l : List D} {M : List Mk} {σ : AS} {first : List Int} (g : Gw W W' R T S L F l M σ first) : L ≠ S := fun z => by have := g.lm; rw [z, g.s] at this; cases this
theorem Gw.ff {W W' : Wd} {R T S L F : Addr} {l : List D} {M : List Mk} {σ : AS} {first : List Int} (g : Gw W W' R T S L F l M σ first) : W' F = some (.dct (slD first)) := g.sub _ _ g.f
theorem Gw.plain {W W' : Wd} {R T S L F : Addr} {l : List D} {M : List Mk} {σ τ : AS} {first : List Int} (g : Gw W W' R T S L F l M σ first) :
    Gw W (wset (wset (wset W' S (.dct (dmD τ.sn))) R (.dct (slD τ.ps))) T (.dct (dmD (τ.ts.getLastD [])))) R T S L F l M τ first := by
  refine ⟨by rw [ws_ne g.rt, ws_same], ws_same, by rw [ws_ne g.ts.symm, ws_ne g.rs.symm, ws_same], by rw [ws_ne g.lt, ws_ne g.lr, ws_ne g.ls]; exact g.lm, g.ma.mono fun p c h n => ⟨?_, n⟩, g.nr, g.nt, g.ns, g.nl, ((g.sub.new g.ns).new g.nr).new g.nt, g.rt, g.rs, g.ts, g.f⟩
  simp only [List.mem_cons, List.not_mem_nil, or_false, not_or] at n
  rw [ws_ne n.2.1, ws_ne n.1, ws_ne n.2.2.1]; exact h
theorem Gw.pop {W W' : Wd} {R T S L F : Addr} {l1 : List D} {x : D} {m : Mk} {M : List Mk} {σ : AS} {first : List Int} (g : Gw W W' R T S L F (l1 ++ [x]) (m :: M) σ first) (h : MkA W' [R, T, S, L] l1 M) :
    Gw W (wset W' L (.lst l1)) R T S L F l1 M σ first := by
  refine ⟨by rw [ws_ne g.lr.symm]; exact g.r, by rw [ws_ne g.lt.symm]; exact g.t, by rw [ws_ne g.ls.symm]; exact g.s, ws_same, h.mono fun p c h n => ⟨?_, n⟩, g.nr, g.nt, g.ns, g.nl, g.sub.new g.nl, g.rt, g.rs, g.ts, g.f⟩
  simp only [List.mem_cons, List.not_mem_nil, or_false, not_or] at n
  rw [ws_ne n.2.2.2]; exact h
theorem Gw.push {W W' : Wd} {R T S L F P P2 : Addr} {l : List D} {m : Mk} {M : List Mk} {σ : AS} {first : List Int} (g : Gw W W' R T S L F l M σ first) (e1 : m.ps = σ.ps) (e2 : m.ts = σ.ts) (og : ∀ n s g p t, m = .guard n s g p t → Sl s) (ok : OkS σ 1) (h1 : W' P = none) (h2 : wset W' P (.dct (slD σ.ps)) P2 = none) :
    Gw W (wset (wset (wset W' P (.dct (slD σ.ps))) P2 (.dct (dmD (σ.ts.getLastD [])))) L (.lst (l ++ [mkD m P P2]))) R T S L F (l ++ [mkD m P P2]) (m :: M) σ first := by
  have h3 := ws_non h2
  have key : ∀ p c, W' p = some c → p ≠ L → wset (wset (wset W' P (.dct (slD σ.ps))) P2 (.dct (dmD (σ.ts.getLastD [])))) L (.lst (l ++ [mkD m P P2])) p = some c := fun p c h n => by
    rw [ws_ne n, ws_ne (ne_w h h3), ws_ne (ne_w h h1)]; exact h
  have nPL : P ≠ L := Ne.symm (ne_w g.lm h1)
  have nQL : P2 ≠ L := Ne.symm (ne_w g.lm h3)
  have nPQ : P ≠ P2 := ne_w ws_same h2
  have ban : ∀ p, W' p = none → p ∉ [R, T, S, L] := fun p h n => by
    simp only [List.mem_cons, List.not_mem_nil, or_false] at n
    rcases n with rfl | rfl | rfl | rfl
    · rw [g.r] at h; cases h
    · rw [g.t] at h; cases h
    · rw [g.s] at h; cases h
    · rw [g.lm] at h; cases h
  refine ⟨key _ _ g.r g.lr.symm, key _ _ g.t g.lt.symm, key _ _ g.s g.ls.symm, ws_same, .cons (g.ma.mono fun p c h n => ⟨?_, n⟩) ?_ ?_ (ban _ h1) (ban _ h3) ?_, g.nr, g.nt, g.ns, g.nl, ((g.sub.new (sub_none g.sub h1)).new (sub_none g.sub h3)).new g.nl, g.rt, g.rs, g.ts, g.f⟩
  · simp only [List.mem_cons, List.not_mem_nil, or_false, not_or] at n
    exact key _ _ h n.2.2.2
  · rw [ws_ne nPL, ws_ne nPQ, ws_same, e1]
  · rw [ws_ne nQL, ws_same, e2]
  · exact ⟨by rw [e1, e2]; exact ⟨ok.ps, ok.nb, ok.ln, ok.ts, .nil⟩, og⟩
theorem Gw.back {W W' : Wd} {R T S L F P P2 L2 : Addr} {l l1 : List D} {M M' : List Mk} {σ τ : AS} {first : List Int} (g : Gw W W' R T S L F l M σ first) (hm : MkA W' [R, T, S, L] l1 M') (h1 : W' P = none) {c1 : Cell} (h2 : wset W' P c1 P2 = none) (h3 : W' L2 = none) (n1 : L2 ≠ P) (n2 : L2 ≠ P2) (es : τ.sn = σ.sn) :
    Gw W (wset (wset (wset W' P (.dct (slD τ.ps))) P2 (.dct (dmD (τ.ts.getLastD [])))) L2 (.lst l1)) P P2 S L2 F l1 M' τ first := by
  have h2' := ws_non h2
  have key : ∀ p c, W' p = some c → wset (wset (wset W' P (.dct (slD τ.ps))) P2 (.dct (dmD (τ.ts.getLastD [])))) L2 (.lst l1) p = some c := fun p c h => by
    rw [ws_ne (ne_w h h3), ws_ne (ne_w h h2'), ws_ne (ne_w h h1)]; exact h
  have nPQ : P ≠ P2 := ne_w ws_same h2
  refine ⟨by rw [ws_ne n1.symm, ws_ne nPQ, ws_same], by rw [ws_ne n2.symm, ws_same], by rw [es]; exact key _ _ g.s, ws_same, hm.mono fun p c h n => ⟨key _ _ h, ?_⟩, sub_none g.sub h1, sub_none g.sub h2', g.ns, sub_none g.sub h3, ((g.sub.new (sub_none g.sub h1)).new (sub_none g.sub h2')).new (sub_none g.sub h3), nPQ, Ne.symm (ne_w g.s h1), Ne.symm (ne_w g.s h2'), g.f⟩
  simp only [List.mem_cons, List.not_mem_nil, or_false, not_or] at n ⊢
  exact ⟨ne_w h h1, ne_w h h2', n.2.2.1, ne_w h h3⟩
theorem seek_takes {e : AE} {m : Mk} {M' : List Mk} : ∀ {M : List Mk}, seek e M = some (m, M') → m.takes e = true
  | [], h => by cases h
  | x :: r, h => by
    rw [seek] at h
    split at h
    · rename_i z; cases h; exact z
    · exact seek_takes h
theorem rowsL_at {rs : Rows} {k : Nat} {r : List V} (h : rs[k]? = some r) : atI (rowsL rs) (k : Int) = some (rwD r) := atI_nat (by rw [List.getElem?_map, h]; rfl)
section
variable {d : Ad} {vs : List V} {H : Hp} {Q : VK} {E : XK}
theorem pure_l_mark (h : sp_l_mark d vs H Q E) : t_l_mark d { nx := fun _ H' => Q .non H', rt := Q } (start N_l_mark vs) H := by
  refine lift_pure h fun ds W Q hp => ?_
  obtain ⟨x, r, rfl, l, M, ban, e, σ, hx, hm, hr, hl, k1, k2⟩ := hp
  show WS d.K (t_l_mark d) [some x, some (rwD r), none] W _
  unfold t_l_mark
  walk_at "mgo"
  refine ⟨_, _, _, l.length, rfl, rgcD (by omega), ?_⟩
  refine ⟨fun i ev W' => W' = W ∧ ev = [some x, some (rwD r), none] ∧ ∃ M2, MkA W ban (l.take (l.length - i)) M2 ∧ seek e M = seek e M2, nx_id ⟨rfl, rfl, M, by simpa using hm, rfl⟩, fun _ _ _ _ _ => trivial, ?_, ?_⟩
  · rintro i u ev W' hi hu ⟨rfl, rfl, M2, hm2, hs⟩
    cases hu
    have hi : i < l.length := hi
    obtain ⟨l1, m, p, q, M', e2, rfl, hm', hp, hq, np, nq, ok⟩ := hm2.last (by rw [List.length_take]; omega)
    have e3 : l1.length + 1 = l.length - i := by
      have := congrArg List.length e2
      rw [List.length_take, List.length_append, List.length_singleton] at this
      omega
    have hat : l[l1.length]? = some (mkD m p q) := by
      have := congrArg (fun z => z[l1.length]?) e2
      simp only [List.getElem?_append_right (Nat.le_refl _), Nat.sub_self] at this
      rw [List.getElem?_take_of_lt (by omega)] at this
      exact this
    have ht : l.take l1.length = l1 := by
      have := congrArg (List.take l1.length) e2
      rw [List.take_take, Nat.min_eq_left (by omega), List.take_left'] at this
      · exact this
      · rfl
    rw [show ((l.length : Nat) : Int) - 1 + (i : Nat) * (-1) = ((l1.length : Nat) : Int) by omega]
    have hx1 : atI l ((l1.length : Nat) : Int) = some (mkD m p q) := atI_nat hat
    have miss : m.takes e = false → Nx (fun ev W2 => W2 = W' ∧ ev = [some x, some (rwD r), none] ∧ ∃ M2, MkA W' ban (l.take (l.length - (i + 1))) M2 ∧ seek e M = seek e M2) [some x, some (rwD r), some (.raw (.int (l1.length : Nat)))] W' := fun z =>
      nx_le (by walk_at "le") ⟨rfl, rfl, M', by rw [show l.length - (i + 1) = l1.length by omega, ht]; exact hm', by rw [hs, seek, if_neg (by rw [z]; exact nofun)]⟩
    have hit : m.takes e = true → seek e M = some (m, M') := fun z => by rw [hs, seek, if_pos z]
    cases hr with
    | wait => cases m with
      | eith g ps ts =>
        rw [mkD_e] at hx1
        walk_at "mgo"
        refine d_ixL hx hx1 ?_
        walk_at "mgo"
        exact ret_dat (Sub.refl _) (k2 _ M' l1 p q (hit rfl) rfl hm' hat ht hp hq np nq ok)
      | guard nm s g ps ts =>
        rw [mkD_g] at hx1
        walk_at "mgo"
        refine d_ixL hx hx1 ?_
        walk_at "mgo"
        exact miss rfl
    | throw hn hsl => cases m with
      | eith g ps ts =>
        rw [mkD_e] at hx1
        walk_at "mgo"
        refine d_ixL hx hx1 ?_
        walk_at "mgo"
        exact miss rfl
      | guard nm s g ps ts =>
        rw [mkD_g] at hx1
        rename_i n0 s0
        walk_at "mgo"
        refine d_ixL hx hx1 ?_
        walk_at "mgo"
        refine d_ixL hx hx1 ?_
        walk_at "mgo"
        by_cases z : nm = n0
        · refine w_tt (dB_t z) ?_
          walk_at "mgo"
          have ht2 : Mk.takes (.guard nm s g ps ts) (.fell n0 (lk σ s0)) = true := by simp [Mk.takes, z]
          exact ret_dat (Sub.refl _) (k2 _ M' l1 p q (hit ht2) ht2 hm' hat ht hp hq np nq ok)
        · refine w_ff (dB_f z) ?_
          walk_at "mgo"
          exact miss (by simp [Mk.takes, Ne.symm z])
  · rintro e' W' ⟨rfl, rfl, M2, hm2, hs⟩
    walk_at "mgo"
    refine ret_dat (Sub.refl _) (k1 ?_)
    have z := hm2.len
    rw [List.length_take, show (itR (((l.length : Nat) : Int) - 1) (-1) l.length).n = l.length from rfl] at z
    cases M2 with
    | nil => rw [hs]; rfl
    | cons a b => simp at z
theorem pure_l_end (h : sp_l_end d vs H Q E) : t_l_end d { nx := fun _ H' => Q .non H', rt := Q } (start N_l_end vs) H := by
  refine lift_pure h fun ds W Q hp => ?_
  obtain ⟨r, x, rfl, σ, e, hr, hx, h8, k⟩ := hp
  show WS d.K (t_l_end d) [some (rwD r), some x] W _
  unfold t_l_end
  cases hr with
  | wait =>
    walk_at "mgo"
    exact ret_dat (Sub.refl _) k
  | throw hn hsl =>
    walk_at "mgo"
    refine d_dgetS hx (valD_sl h8 hsl) ?_
    walk_at "mgo"
    exact ret_dat (Sub.refl _) k
theorem pure_l_plain_row (h : sp_l_plain_row d vs H Q E) : t_l_plain_row d { nx := fun _ H' => Q .non H', rt := Q } (start N_l_plain_row vs) H := by
  refine lift_vs h fun ds W Q hp => ?_
  obtain ⟨p, bs, sa, sl, wr, rfl, ps, t, sn, ha, hs, hw, naw, nas, nws, ok, ob, okp, p4, k⟩ := hp
  have h8 : ps.length = 8 := ok.ps
  show WS d.K (t_l_plain_row d) [some (rwD (plainRow p)), some (.lst (bs.map D.int)), some (.ptr sa), some (.ptr sl), some (.ptr wr), none] W _
  unfold t_l_plain_row
  have lb := ob.l1
  have tk := (ok.ts t (by simp)).k.len
  have sk := ok.sn.k.len
  simp only at tk sk
  have l8 : ∀ qs : List Int, qs.length = 8 → (slD qs).length < sizeLine := fun qs hq => by rw [slDf_len, hq, sizeLine_eq]; decide
  refine ws_cutS ?_
  have fin : ∀ (h : Str) (rest : List V) (W' : Wd), h ∈ (["let", "take", "put", "plus", "minus", "times", "less", "same"] : List Str) → SubQ Q (.bl true) W' → ∀ b : Option D, WS d.K (tRet (tAndV (tOp rGt (tCB (Evl.rLenS d.K) (tCons (tVar 0) tNil)) (tC (.int 0))) (tOp (rIn d.K false) (tOp (rIxT d.K) (tVar 0) (tC (.int 0))) (tTup (tCons (tC (.str "let")) (tCons (tC (.str "take")) (tCons (tC (.str "put")) (tCons (tC (.str "plus")) (tCons (tC (.str "minus")) (tCons (tC (.str "times")) (tCons (tC (.str "less")) (tCons (tC (.str "same")) tNil)))))))))))) [some (rwD (.str h :: rest)), some (.lst (bs.map D.int)), some (.ptr sa), some (.ptr sl), some (.ptr wr), b] W' ⟨fun _ W' => SubQ Q .non W', Q, fun _ _ => False, fun _ _ => False⟩ := by
    intro h rest W' hm hq b
    walk_at "mgo"
    refine w_tt (dB_t (by rw [List.length_map, List.length_cons]; omega)) ?_
    walk_at "mgo"
    refine d_ixT (d := .raw (.str h)) ?_ ?_
    · exact atI_nat (j := 0) rfl
    walk_at "mgo"
    refine d_inTf (l := ["let", "take", "put", "plus", "minus", "times", "less", "same"]) ?_
    rw [dB_t hm]
    exact .inl hq
  cases p with
  | let_ s v =>
    show WS d.K _ [some (rwD [.str "let", .str s, .int v]), some (.lst (bs.map D.int)), some (.ptr sa), some (.ptr sl), some (.ptr wr), none] W _
    walk_at "mgo"
    refine d_dputS hs (l8 _ h8) ?_
    rw [putKD_sl h8 okp.1]
    refine fin _ _ _ (by decide) (sub_q (Sub.refl _) ?_) _
    have := k
    simp only [plainS, AS.give] at this
    rw [ws_id ha, ws_id (W := wset W sl _) (a := wr) (by rw [ws_ne nws]; exact hw)] at this
    exact this
  | rk w s o u =>
    show WS d.K _ [some (rwD [.str w, .str s, .str o, .str u]), some (.lst (bs.map D.int)), some (.ptr sa), some (.ptr sl), some (.ptr wr), none] W _
    have z1 : ∀ x : Str, x ∉ five → w ≠ x := fun x hx z => hx (z ▸ okp.1)
    walk_at "mgo"
    refine w_ff (dB_f (z1 _ (by decide))) ?_
    walk_at "mgo"
    refine w_ff (dB_f (z1 _ (by decide))) ?_
    walk_at "mgo"
    refine w_ff (dB_f (z1 _ (by decide))) ?_
    walk_at "mgo"
    refine w_tt (dB_t rfl) ?_
    walk_at "mgo"
    refine d_inTf (l := ["plus", "minus", "times", "less", "same"]) ?_
    walk_at "mgo"
    refine w_tt (dB_t okp.1) ?_
    walk_at "mgo"
    refine d_dgetS (.own hs) (valD_sl h8 okp.2.2.1) ?_
    walk_at "mgo"
    refine d_dgetS (.own hs) (valD_sl h8 okp.2.2.2) ?_
    walk_at "mgo"
    refine ⟨w, _, _, rfl, okp.1, ok.lkN okp.2.2.1, ok.lkN okp.2.2.2, ?_⟩
    walk_at "mgo"
    refine d_dputS hs (l8 _ h8) ?_
    rw [putKD_sl h8 okp.2.1]
    refine fin _ _ _ (by have : ∀ x ∈ five, x ∈ (["let", "take", "put", "plus", "minus", "times", "less", "same"] : List Str) := (by decide); exact this _ okp.1) (sub_q (Sub.refl _) ?_) _
    have := k
    simp only [plainS, AS.give] at this
    rw [ws_id ha, ws_id (W := wset W sl _) (a := wr) (by rw [ws_ne nws]; exact hw)] at this
    exact this
  | put q s =>
    show WS d.K _ [some (rwD [.str "put", .str q, .str s]), some (.lst (bs.map D.int)), some (.ptr sa), some (.ptr sl), some (.ptr wr), none] W _
    walk_at "mgo"
    refine d_dgetS (.own hs) (valD_sl h8 okp.2) ?_
    walk_at "mgo"
    refine d_dgetS (.own hs) (valD_sl h8 okp.1) ?_
    walk_at "mgo"
    rw [List.length_map]
    refine d_i (by show (0 : Int) < _; omega) ?_
    walk_at "mgo"
    refine d_dputI hw (by rw [dmD_len, sizeLine_eq]; omega) ?_
    rw [putKD_dm]
    refine fin _ _ _ (by decide) (sub_q (Sub.refl _) ?_) _
    have := k
    simp only [plainS] at this
    rw [ws_id ha, ws_id hs] at this
    exact this
  | take s q =>
    show WS d.K _ [some (rwD [.str "take", .str s, .str q]), some (.lst (bs.map D.int)), some (.ptr sa), some (.ptr sl), some (.ptr wr), none] W _
    walk_at "mgo"
    refine d_dgetS (.own hs) (valD_sl h8 okp.2) ?_
    walk_at "mgo"
    rw [List.length_map]
    refine d_i (by show (0 : Int) < _; omega) ?_
    walk_at "mgo"
    have bx := box_atI ob ⟨ps, [t], sn⟩ q
    simp only [plainS, takeS] at k
    have hb : ps.getD (ix q) 0 % ((bs.length : Nat) : Int) = bxAt bs ⟨ps, [t], sn⟩ q := rfl
    rw [hb]
    have ow : ownM [t] (bxAt bs ⟨ps, [t], sn⟩ q) = dget t (bxAt bs ⟨ps, [t], sn⟩ q) := by
      unfold ownM
      simp only [List.reverse_singleton, List.findSome?_cons, List.findSome?_nil]
      cases dget t (bxAt bs ⟨ps, [t], sn⟩ q) <;> rfl
    generalize bxAt bs ⟨ps, [t], sn⟩ q = bx' at *
    simp only [ow] at k
    rw [valD_dm]
    cases e : dget t bx' with
    | some v =>
      rw [e] at k
      simp only [AS.give] at k
      refine w_ff rfl ?_
      walk_at "mgo"
      refine we_dget2 ?_
      walk_at "mgo"
      refine ⟨wr, _, rfl, .own hw, ?_⟩
      walk_at "mgo"
      refine d_ixL (SeqD.lst _) bx ?_
      refine ⟨_, .inl bx', .own hw, rfl, ?_⟩
      rw [valD_dm, e]
      walk_at "mgo"
      refine d_dputS hs (l8 _ h8) ?_
      rw [show ((some v).map D.int).getD (.raw (.int (bs.getD bx'.toNat 0))) = .raw (.int v) from rfl, putKD_sl h8 okp.1]
      refine fin _ _ _ (by decide) (sub_q (Sub.refl _) ?_) _
      rw [ws_id ha, ws_id (W := wset W sl _) (a := wr) (by rw [ws_ne nws]; exact hw)] at k
      exact k
    | none =>
      rw [e] at k
      simp only [AS.give] at k
      refine w_tt rfl ?_
      walk_at "mgo"
      refine d_ixL (SeqD.lst _) bx ?_
      walk_at "mgo"
      refine d_dputI ha (by rw [dmD_len, sizeLine_eq]; omega) ?_
      rw [putKD_dm]
      walk_at "mgo"
      have hw2 := ws_lk (c := .dct (dmD (dput sn bx' (bs.getD bx'.toNat 0)))) naw.symm hw
      have hs2 := ws_lk (c := .dct (dmD (dput sn bx' (bs.getD bx'.toNat 0)))) nas.symm hs
      refine we_dget2 ?_
      walk_at "mgo"
      refine ⟨wr, _, rfl, .own hw2, ?_⟩
      walk_at "mgo"
      refine d_ixL (SeqD.lst _) bx ?_
      refine ⟨_, .inl bx', .own hw2, rfl, ?_⟩
      rw [valD_dm, e]
      walk_at "mgo"
      refine d_dputS hs2 (l8 _ h8) ?_
      rw [show ((none : Option Int).map D.int).getD (.raw (.int (bs.getD bx'.toNat 0))) = .raw (.int (bs.getD bx'.toNat 0)) from rfl, putKD_sl h8 okp.1]
      refine fin _ _ _ (by decide) (sub_q (Sub.refl _) ?_) _
      rw [ws_id (W := wset (wset W sa _) sl _) (a := wr) (by rw [ws_ne nws]; exact hw2)] at k
      exact k
  | _ => cases p4
def goneInv (d : Ad) (W : Wd) (rows : Rows) (bs first : List Int) (F : Addr) (res : Option AE × AS) (m : Nat) (ev : Env) (W' : Wd) : Prop := ∃ (a : Nat) (R T S L : Addr) (l : List D) (M : List Mk) (σ : AS), ev = [some (.lst (rowsL rows)), some (.lst (bs.map D.int)), some (.ptr F), some (.ptr R), some (.ptr T), some (.ptr S), some (.ptr L), some (.raw (.int (a : Nat))), none, none, none, none] ∧ Run rows bs m a M σ res ∧ OkS σ 1 ∧ M.length ≤ 60 ∧ Gw W W' R T S L F l M σ first
theorem ah_item {i : Nat} {u : D} (hi : i < 8) (h : (itStr "abcdefgh").item i = some u) : u = .raw (.str (lt1 (97 + i))) := by
  have z : ∀ i : Fin 8, (itStr "abcdefgh").item i.val = some (.raw (.str (lt1 (97 + i.val)))) := fun i => match i with
    | 0 => rfl | 1 => rfl | 2 => rfl | 3 => rfl | 4 => rfl | 5 => rfl | 6 => rfl | 7 => rfl
  rw [z ⟨i, hi⟩] at h
  cases h
  rfl
theorem cutD_pre {l : List D} {k : Nat} : cutD l none (some (k : Int)) = l.take k := by
  unfold cutD
  rw [HT.sIx_none, HT.sIx_nat, List.drop_zero, Nat.sub_zero]
  by_cases z : k ≤ l.length
  · rw [Nat.min_eq_left z]
  · rw [Nat.min_eq_right (by omega), List.take_of_length_le (by omega), List.take_of_length_le (by omega)]
theorem ws_mid {W : Wd} {P P2 : Addr} {a b c : Cell} (n : P ≠ P2) : wset (wset (wset W P a) P2 b) P c = wset (wset W P c) P2 b := by
  funext x
  by_cases z : x = P
  · rw [z, ws_same, ws_ne n, ws_same]
  · by_cases z2 : x = P2
    · rw [ws_ne z, z2, ws_same, ws_same]
    · rw [ws_ne z, ws_ne z2, ws_ne z, ws_ne z2, ws_ne z]
theorem run_at {rows : Rows} {bs : List Int} {m a : Nat} {M : List Mk} {σ : AS} {res : Option AE × AS} (h : Run rows bs m a M σ res) : a < rows.length := by
  cases h with
  | lay h => exact (List.getElem?_eq_some_iff.mp h).1
  | pl p p4 ok h k => exact (List.getElem?_eq_some_iff.mp h).1
  | jump h k => exact (List.getElem?_eq_some_iff.mp h).1
  | un s hs h k => exact (List.getElem?_eq_some_iff.mp h).1
  | settle h k => exact (List.getElem?_eq_some_iff.mp h).1
  | eith hl h k => exact (List.getElem?_eq_some_iff.mp h).1
  | guard nm s hn hs hl h k => exact (List.getElem?_eq_some_iff.mp h).1
  | stop e hr h z => exact (List.getElem?_eq_some_iff.mp h).1
  | caught e hr h z k => exact (List.getElem?_eq_some_iff.mp h).1
theorem pure_l_gone (h : sp_l_gone d vs H Q E) : t_l_gone d { nx := fun _ H' => Q .non H', rt := Q } (start N_l_gone vs) H := by
  refine lift_pure h fun ds W Q hp => ?_
  obtain ⟨rows, bs, first, F, rfl, hF, h8, hn, ob, n, e, τ, hrun, k⟩ := hp
  show WS d.K (t_l_gone d) [some (.lst (rowsL rows)), some (.lst (bs.map D.int)), some (.ptr F), none, none, none, none, none, none, none, none, none] W _
  unfold t_l_gone
  walk_at "mgo"
  refine d_dcopy (.own hF) ?_
  intro R hR
  walk_at "mgo"
  intro T hT
  walk_at "mgo"
  intro S hS
  walk_at "mgo"
  intro L hL
  refine fz_id ?_
  walk_at "mgo"
  have nT := ws_non hT
  have nS := ws_non (ws_non hS)
  have nL := ws_non (ws_non (ws_non hL))
  have ok0 : OkS ⟨first, [[]], []⟩ 1 := ⟨h8, hn, rfl, fun t ht => by rw [List.mem_singleton.mp ht]; exact .nil, .nil⟩
  have nRT : R ≠ T := ne_w ws_same hT
  have nRS : R ≠ S := ne_w (ws_lk nRT ws_same) hS
  have nTS : T ≠ S := ne_w ws_same hS
  have nSL : S ≠ L := ne_w ws_same hL
  have nTL : T ≠ L := ne_w (ws_lk nTS ws_same) hL
  have nRL : R ≠ L := ne_w (ws_lk nRS (ws_lk nRT ws_same)) hL
  refine ws_while (goneInv d W rows bs first F (e, τ)) (m := n) (nx_id ⟨0, R, T, S, L, [], [], _, rfl, hrun, ok0, by decide, ?_⟩) ?_
  · exact ⟨by rw [ws_ne nRL, ws_ne nRS, ws_ne nRT, ws_same], by rw [ws_ne nTL, ws_ne nTS, ws_same]; rfl, by rw [ws_ne nSL, ws_same]; rfl, ws_same, .nil, hR, nT, nS, nL, ((((Sub.refl W).new hR).new nT).new nS).new nL, nRT, nRS, nTS, hF⟩
  clear nRT nRS nTS nSL nTL nRL hR hT hS hL nT nS nL
  rintro m e' W' ⟨a, R, T, S, L, l, M, σ, rfl, hrun, ok, hM, g⟩
  have ha := run_at hrun
  have hl := g.ma.len
  obtain ⟨t0, et⟩ := okS_one ok
  have lt := (ok.ts t0 (by rw [et]; simp)).k.len
  have ls := ok.sn.k.len
  have e8 : σ.ps.length = 8 := ok.ps
  walk_at "mgo"
  refine w_tt (dB_t (by omega)) ?_
  walk_at "mgo"
  rw [List.length_map]
  refine w_tt (dB_t (by omega)) ?_
  walk_at "mgo"
  cases hrun with
  | lay h =>
    refine d_ixL (SeqD.lst _) (rowsL_at h) ?_
    walk_at "mgo"
    refine ⟨_, _, rfl, .own g.s, by omega, fun u hu => ?_⟩
    refine fz_new hu ?_
    walk_at "mgo"
    have gt := g.t
    rw [et] at gt
    have gt : W' T = some (.dct (dmD t0)) := gt
    refine ⟨_, t0, rfl, .own gt, by omega, fun u hu => ?_⟩
    refine fz_new hu ?_
    walk_at "mgo"
    refine ⟨by decide, τ.ps.map D.int, by rw [List.length_map, e8]; rfl, ?_, ?_⟩
    · intro p i u Lx hp hi hu
      have hi : i < 8 := hi
      have hu := ah_item hi hu
      subst hu
      walk_at "mgo"
      refine d_dgetS (.own (ws_lk (ne_w2 hp g.r) g.r)) (valD_sl e8 ⟨i, hi, rfl⟩) ?_
      refine fz_id (sub_q (Sub.refl _) ⟨?_, rfl⟩)
      rw [ix_lt, List.getElem?_map, List.getD_eq_getElem?_getD, List.getElem?_eq_getElem (by omega)]
      rfl
    · intro p hp
      refine fz_new hp ?_
      walk_at "mgo"
      have := k
      unfold dueD at this
      rw [et] at this
      exact ret_dat g.sub this
  | jump h kk =>
    refine d_ixL (SeqD.lst _) (rowsL_at h) ?_
    walk_at "mgo"
    exact ⟨_, by omega, nx_le (by walk_at "le") ⟨_, R, T, S, L, l, M, σ, rfl, kk, ok, hM, g⟩⟩
  | un s hs h kk =>
    refine d_ixL (SeqD.lst _) (rowsL_at h) ?_
    walk_at "mgo"
    refine d_dgetS (.own g.r) (valD_sl e8 hs) ?_
    walk_at "mgo"
    by_cases z : lk σ s = 0
    · rw [if_pos z] at kk
      refine w_tt (dB_t z) ?_
      walk_at "mgo"
      exact ⟨_, by omega, nx_le (by walk_at "le") ⟨_, R, T, S, L, l, M, σ, rfl, kk, ok, hM, g⟩⟩
    · rw [if_neg z] at kk
      refine w_ff (dB_f z) ?_
      walk_at "mgo"
      exact ⟨_, by omega, nx_le (by walk_at "le") ⟨_, R, T, S, L, l, M, σ, rfl, kk, ok, hM, g⟩⟩
  | settle h kk =>
    refine d_ixL (SeqD.lst _) (rowsL_at h) ?_
    walk_at "mgo"
    obtain ⟨l1, m, p, q, M', rfl, em, hm', hp, hq, np, nq, okm⟩ := g.ma.last (by rw [hl]; exact Nat.succ_pos _)
    cases em
    refine d_seq (.own g.lm) ?_
    refine d_pop g.lm ?_
    walk_at "mgo"
    exact ⟨_, by omega, nx_le (by walk_at "le") ⟨_, R, T, S, L, l1, _, σ, rfl, kk, ok, by simp only [List.length_cons] at hM; omega, g.pop hm'⟩⟩
  | @eith n0 _ g0 _ _ _ hlt h kk =>
    refine d_ixL (SeqD.lst _) (rowsL_at h) ?_
    walk_at "mgo"
    refine d_seq (.own g.lm) ?_
    walk_at "mgo"
    refine d_dcopy (.own g.r) ?_
    intro P hP
    walk_at "mgo"
    refine d_dcopy (.own (ws_lk (ne_w2 hP g.t) g.t)) ?_
    intro P2 hP2
    walk_at "mgo"
    have hL2 : wset (wset W' P (.dct (slD σ.ps))) P2 (.dct (dmD (σ.ts.getLastD []))) L = some (.lst l) := ws_lk (ne_w2 hP2 (ws_lk (ne_w2 hP g.lm) g.lm)) (ws_lk (ne_w2 hP g.lm) g.lm)
    refine d_app hL2 (by rw [sizeLine_eq]; omega) ?_
    walk_at "mgo"
    have gp := g.push (m := .eith g0 σ.ps σ.ts) rfl rfl nofun ok hP hP2
    rw [mkD_e] at gp
    exact ⟨_, by omega, nx_le (by walk_at "le") ⟨_, R, T, S, L, _, _, σ, rfl, kk, ok, by rw [List.length_cons]; omega, gp⟩⟩
  | @guard n0 _ g0 _ _ _ nm s hn2 hs hlt h kk =>
    refine d_ixL (SeqD.lst _) (rowsL_at h) ?_
    walk_at "mgo"
    refine d_seq (.own g.lm) ?_
    walk_at "mgo"
    refine d_dcopy (.own g.r) ?_
    intro P hP
    walk_at "mgo"
    refine d_dcopy (.own (ws_lk (ne_w2 hP g.t) g.t)) ?_
    intro P2 hP2
    walk_at "mgo"
    have hL2 : wset (wset W' P (.dct (slD σ.ps))) P2 (.dct (dmD (σ.ts.getLastD []))) L = some (.lst l) := ws_lk (ne_w2 hP2 (ws_lk (ne_w2 hP g.lm) g.lm)) (ws_lk (ne_w2 hP g.lm) g.lm)
    refine d_app hL2 (by rw [sizeLine_eq]; omega) ?_
    walk_at "mgo"
    have gp := g.push (m := .guard nm s g0 σ.ps σ.ts) rfl rfl (fun _ _ _ _ _ e => by cases e; exact hs) ok hP hP2
    rw [mkD_g] at gp
    exact ⟨_, by omega, nx_le (by walk_at "le") ⟨_, R, T, S, L, _, _, σ, rfl, kk, ok, by rw [List.length_cons]; omega, gp⟩⟩
  | stop e0 hr h z =>
    have gt := g.t
    rw [et] at gt
    have gt : W' T = some (.dct (dmD t0)) := gt
    refine d_ixL (SeqD.lst _) (rowsL_at h) ?_
    cases hr with
    | wait =>
      walk_at "mgo"
      refine ⟨_, _, rfl, l, M, _, _, τ, .own g.lm, g.ma, .wait, by omega, fun _ => ?_, fun m M' l1 p q hz => by rw [z] at hz; cases hz⟩
      walk_at "mgo"
      refine ⟨_, _, rfl, τ, _, .wait, .own g.r, e8, ?_⟩
      walk_at "mgo"
      refine ⟨_, _, rfl, .own g.s, by omega, fun u hu => ?_⟩
      refine fz_new hu ?_
      walk_at "mgo"
      walk_at "dat"
      refine ⟨by decide, first.map D.int, by rw [List.length_map, h8]; rfl, ?_, ?_⟩
      · intro p i u Lx hp hi hu
        have hi : i < 8 := hi
        have hu := ah_item hi hu
        subst hu
        walk_at "mgo"
        refine d_dgetS (.own (ws_lk (ne_w2 hp g.ff) g.ff)) (valD_sl h8 ⟨i, hi, rfl⟩) ?_
        refine fz_id (sub_q (Sub.refl _) ⟨?_, rfl⟩)
        rw [ix_lt, List.getElem?_map, List.getD_eq_getElem?_getD, List.getElem?_eq_getElem (by omega)]
        rfl
      · intro p hp
        refine fz_new hp ?_
        walk_at "mgo"
        have := k
        unfold dueD at this
        exact ret_dat g.sub this
    | throw hn2 hsl =>
      walk_at "mgo"
      refine ⟨_, _, rfl, l, M, _, _, τ, .own g.lm, g.ma, (.throw hn2 hsl), by omega, fun _ => ?_, fun m M' l1 p q hz => by rw [z] at hz; cases hz⟩
      walk_at "mgo"
      refine ⟨_, _, rfl, τ, _, (.throw hn2 hsl), .own g.r, e8, ?_⟩
      walk_at "mgo"
      refine ⟨_, _, rfl, .own g.s, by omega, fun u hu => ?_⟩
      refine fz_new hu ?_
      walk_at "mgo"
      walk_at "dat"
      refine ⟨by decide, first.map D.int, by rw [List.length_map, h8]; rfl, ?_, ?_⟩
      · intro p i u Lx hp hi hu
        have hi : i < 8 := hi
        have hu := ah_item hi hu
        subst hu
        walk_at "mgo"
        refine d_dgetS (.own (ws_lk (ne_w2 hp g.ff) g.ff)) (valD_sl h8 ⟨i, hi, rfl⟩) ?_
        refine fz_id (sub_q (Sub.refl _) ⟨?_, rfl⟩)
        rw [ix_lt, List.getElem?_map, List.getD_eq_getElem?_getD, List.getElem?_eq_getElem (by omega)]
        rfl
      · intro p hp
        refine fz_new hp ?_
        walk_at "mgo"
        have := k
        unfold dueD at this
        exact ret_dat g.sub this
  | @caught n0 _ _ M0 m0 _ _ _ e0 hr h z kk =>
    have tk := seek_takes z
    refine d_ixL (SeqD.lst _) (rowsL_at h) ?_
    cases hr with
    | wait =>
      walk_at "mgo"
      refine ⟨_, _, rfl, l, M, _, _, σ, .own g.lm, g.ma, .wait, by omega, (fun hz => by rw [z] at hz; cases hz), fun m M' l1 p q hz tk2 hm hat ht hp hq np nq okm => ?_⟩
      rw [z] at hz
      cases hz
      have hl1 : l1.length ≤ l.length := by have := congrArg List.length ht; rw [List.length_take] at this; omega
      have hl2 := hm.len
      cases m0 with
      | guard nm s gg ps ts => cases tk
      | eith gg ps ts =>
        rw [mkD_e] at hat
        have hp : W' p = some (.dct (slD ps)) := hp
        have hq : W' q = some (.dct (dmD (ts.getLastD []))) := hq
        walk_at "mgo"
        refine w_ff (dB_f (by omega)) ?_
        walk_at "mgo"
        refine ⟨_, _, rfl, σ, _, .wait, .own g.r, e8, ?_⟩
        walk_at "mgo"
        refine d_ixL (.own g.lm) (atI_nat hat) ?_
        walk_at "mgo"
        refine d_dcopy (.own hp) ?_
        intro P hP
        walk_at "mgo"
        have lm2 := ws_lk (c := .dct (slD ps)) (ne_w2 hP g.lm) g.lm
        refine d_ixL (.own lm2) (atI_nat hat) ?_
        walk_at "mgo"
        refine d_dcopy (.own (ws_lk (ne_w2 hP hq) hq)) ?_
        intro P2 hP2
        walk_at "mgo"
        have lm3 := ws_lk (c := .dct (dmD (ts.getLastD []))) (ne_w2 hP2 lm2) lm2
        refine d_ixL (.own lm3) (atI_nat hat) ?_
        walk_at "mgo"
        rw [cutD_pre, ht]
        intro L2 hL2
        refine fz_id ?_
        walk_at "mgo"
        have n1 : L2 ≠ P := Ne.symm (ne_w (ws_lk (ne_w ws_same hP2) ws_same) hL2)
        have n2 : L2 ≠ P2 := Ne.symm (ne_w ws_same hL2)
        have gb := Gw.back (τ := ⟨ps, ts, σ.sn⟩) g hm hP hP2 (ws_non (ws_non hL2)) n1 n2 rfl
        exact ⟨_, by omega, nx_le (by walk_at "le") ⟨_, P, P2, S, L2, _, _, _, rfl, kk, ⟨okm.s.ps, okm.s.nb, okm.s.ln, okm.s.ts, ok.sn⟩, by omega, gb⟩⟩
    | throw hn2 hsl =>
      rename_i n1 s1
      walk_at "mgo"
      refine ⟨_, _, rfl, l, M, _, _, σ, .own g.lm, g.ma, .throw hn2 hsl, by omega, (fun hz => by rw [z] at hz; cases hz), fun m M' l1 p q hz tk2 hm hat ht hp hq np nq okm => ?_⟩
      rw [z] at hz
      cases hz
      have hl1 : l1.length ≤ l.length := by have := congrArg List.length ht; rw [List.length_take] at this; omega
      have hl2 := hm.len
      cases m0 with
      | eith gg ps ts => cases tk
      | guard nm s gg ps ts =>
        rw [mkD_g] at hat
        have hp : W' p = some (.dct (slD ps)) := hp
        have hq : W' q = some (.dct (dmD (ts.getLastD []))) := hq
        have hs0 : Sl s := okm.g _ _ _ _ _ rfl
        have h80 : ps.length = 8 := okm.s.ps
        walk_at "mgo"
        refine w_ff (dB_f (by omega)) ?_
        walk_at "mgo"
        refine ⟨_, _, rfl, σ, _, .throw hn2 hsl, .own g.r, e8, ?_⟩
        rw [show endD (some (AE.fell n1 (lk σ s1))) = D.tup [.raw (.str "fell"), .raw (.str n1), .raw (.int (lk σ s1))] from rfl]
        walk_at "mgo"
        refine d_ixL (.own g.lm) (atI_nat hat) ?_
        walk_at "mgo"
        refine d_dcopy (.own hp) ?_
        intro P hP
        walk_at "mgo"
        have lm2 := ws_lk (c := .dct (slD ps)) (ne_w2 hP g.lm) g.lm
        refine d_ixL (.own lm2) (atI_nat hat) ?_
        walk_at "mgo"
        refine d_dcopy (.own (ws_lk (ne_w2 hP hq) hq)) ?_
        intro P2 hP2
        walk_at "mgo"
        have lm3 := ws_lk (c := .dct (dmD (ts.getLastD []))) (ne_w2 hP2 lm2) lm2
        refine d_ixL (.own lm3) (atI_nat hat) ?_
        walk_at "mgo"
        refine d_ixL (.own lm3) (atI_nat hat) ?_
        walk_at "mgo"
        have nPQ : P ≠ P2 := ne_w ws_same hP2
        have hP3 : wset (wset W' P (.dct (slD ps))) P2 (.dct (dmD (ts.getLastD []))) P = some (.dct (slD ps)) := ws_lk nPQ ws_same
        refine d_dputS hP3 (by rw [slDf_len, h80, sizeLine_eq]; decide) ?_
        rw [putKD_sl h80 hs0, ws_mid nPQ]
        walk_at "mgo"
        have lm4 := ws_lk (W := wset W' P (.dct (slD (ps.set (ix s) (lk σ s1))))) (c := .dct (dmD (ts.getLastD []))) (ne_w2 hP2 lm2) (ws_lk (ne_w2 hP g.lm) g.lm)
        refine d_slLF (.own lm4) ?_
        rw [cutD_pre, ht]
        intro L2 hL2
        refine fz_id ?_
        walk_at "mgo"
        have n1 : L2 ≠ P := Ne.symm (ne_w (ws_lk nPQ ws_same) hL2)
        have n2 : L2 ≠ P2 := Ne.symm (ne_w ws_same hL2)
        have gb := Gw.back (τ := AS.give ⟨ps, ts, σ.sn⟩ s (lk σ s1)) g hm hP hP2 (ws_non (ws_non hL2)) n1 n2 rfl
        exact ⟨_, by omega, nx_le (by walk_at "le") ⟨_, P, P2, S, L2, _, _, _, rfl, kk, OkS.give (σ := ⟨ps, ts, σ.sn⟩) ⟨okm.s.ps, okm.s.nb, okm.s.ln, okm.s.ts, ok.sn⟩ s (ok.lkN hsl), by omega, gb⟩⟩
  | pl p p4 okp h kk =>
    have gt := g.t
    rw [et] at gt
    have gt : W' T = some (.dct (dmD t0)) := gt
    have esg : σ = ⟨σ.ps, [t0], σ.sn⟩ := by cases σ; simp only at et; subst et; rfl
    refine d_ixL (SeqD.lst _) (rowsL_at h) ?_
    cases p with
    | let_ s v =>
      rw [show rwD (plainRow (.let_ s v)) = rwD [.str "let", .str s, .int v] from rfl]
      walk_at "mgo"
      refine ⟨.let_ s v, bs, S, R, T, rfl, σ.ps, t0, σ.sn, g.s, g.r, gt, g.ts.symm, g.rs.symm, g.rt.symm, esg ▸ ok, ob, okp, rfl, ?_⟩
      rw [← esg]
      walk_at "mgo"
      exact ⟨_, by omega, nx_le (by walk_at "le") ⟨_, R, T, S, L, l, M, plainS bs (.let_ s v) σ, rfl, kk, ok.plain ob okp, hM, g.plain⟩⟩
    | rk w s o u =>
      rw [show rwD (plainRow (.rk w s o u)) = rwD [.str w, .str s, .str o, .str u] from rfl]
      have z1 : ∀ x : Str, x ∉ five → w ≠ x := fun x hx z => hx (z ▸ okp.1)
      walk_at "mgo"
      refine w_ff (dB_f (z1 _ (by decide))) ?_
      walk_at "mgo"
      refine w_ff (dB_f (z1 _ (by decide))) ?_
      walk_at "mgo"
      refine w_ff (dB_f (z1 _ (by decide))) ?_
      walk_at "mgo"
      refine w_ff (dB_f (z1 _ (by decide))) ?_
      walk_at "mgo"
      refine w_ff (dB_f (z1 _ (by decide))) ?_
      walk_at "mgo"
      refine w_ff (dB_f (z1 _ (by decide))) ?_
      walk_at "mgo"
      refine w_ff (dB_f (z1 _ (by decide))) ?_
      walk_at "mgo"
      refine w_ff (dB_f (z1 _ (by decide))) ?_
      walk_at "mgo"
      refine ⟨.rk w s o u, bs, S, R, T, rfl, σ.ps, t0, σ.sn, g.s, g.r, gt, g.ts.symm, g.rs.symm, g.rt.symm, esg ▸ ok, ob, okp, rfl, ?_⟩
      rw [← esg]
      walk_at "mgo"
      exact ⟨_, by omega, nx_le (by walk_at "le") ⟨_, R, T, S, L, l, M, plainS bs (.rk w s o u) σ, rfl, kk, ok.plain ob okp, hM, g.plain⟩⟩
    | take s q =>
      rw [show rwD (plainRow (.take s q)) = rwD [.str "take", .str s, .str q] from rfl]
      walk_at "mgo"
      refine ⟨.take s q, bs, S, R, T, rfl, σ.ps, t0, σ.sn, g.s, g.r, gt, g.ts.symm, g.rs.symm, g.rt.symm, esg ▸ ok, ob, okp, rfl, ?_⟩
      rw [← esg]
      walk_at "mgo"
      exact ⟨_, by omega, nx_le (by walk_at "le") ⟨_, R, T, S, L, l, M, plainS bs (.take s q) σ, rfl, kk, ok.plain ob okp, hM, g.plain⟩⟩
    | put q s =>
      rw [show rwD (plainRow (.put q s)) = rwD [.str "put", .str q, .str s] from rfl]
      walk_at "mgo"
      refine ⟨.put q s, bs, S, R, T, rfl, σ.ps, t0, σ.sn, g.s, g.r, gt, g.ts.symm, g.rs.symm, g.rt.symm, esg ▸ ok, ob, okp, rfl, ?_⟩
      rw [← esg]
      walk_at "mgo"
      exact ⟨_, by omega, nx_le (by walk_at "le") ⟨_, R, T, S, L, l, M, plainS bs (.put q s) σ, rfl, kk, ok.plain ob okp, hM, g.plain⟩⟩
    | _ => cases p4
theorem pure_law (h : sp_law d vs H Q E) : t_law d { nx := fun _ H' => Q .non H', rt := Q } (start N_law vs) H := by
  refine law_pure h fun ns hns => ?_
  show WS d.K (t_law d) [some (.scr ns), none, none, none, none, none, none, none, none, none] _ _
  unfold t_law
  walk_at "mgo"
  rw [cutD_map]
  walk_at "dat"
  refine d_sum (SeqD.lst _) ?_
  walk_at "mgo"
  refine ⟨_, rfl, fun q n0 n1 n2 hq k0 k1 k2 => ?_⟩
  refine fz_new hq ?_
  have hnm : Names [n0, n1, n2] := ⟨rfl, fun s hs => by
    simp only [List.mem_cons, List.not_mem_nil, or_false] at hs
    rcases hs with rfl | rfl | rfl
    · exact k0
    · exact k1
    · exact k2⟩
  walk_at "mgo"
  rw [List.length_map]
  obtain ⟨mm, em, bm⟩ : ∃ m : Nat, (if ((ns.length : Nat) : Int) > 1 then ((ns.length : Nat) : Int) else 1) = (m : Nat) ∧ m ≤ 63 := by
    split
    · exact ⟨ns.length, rfl, hns⟩
    · exact ⟨1, rfl, by decide⟩
  rw [em]
  refine ⟨0, mm, 12, _, rfl, rgc12 bm, ?_⟩
  refine ⟨fun i e W' => e = [some (.scr ns), some (.lst [.str n0, .str n1, .str n2]), none, none, none, none, none, none, none, none] ∧ W' = W0, nx_id ⟨rfl, rfl⟩, fun _ _ _ _ _ => trivial, ?_, ?_⟩
  · rintro i u e' W' hi hu ⟨rfl, rfl⟩
    cases hu
    walk_at "mgo"
    rw [cutD_map, show (0 + (i : Nat) * 12 : Int) = ((12 * i : Nat) : Int) from by omega, show (((12 * i : Nat) : Int) + 12) = ((12 * i + 12 : Nat) : Int) from by omega]
    walk_at "dat"
    have cl := cutD_len ns (12 * i) (12 * i + 12)
    generalize cutD ns (some ((12 * i : Nat) : Int)) (some ((12 * i + 12 : Nat) : Int)) = cs at *
    refine ⟨_, 3, _, rfl, _, [n0, n1, n2], SeqD.lst _, by omega, SeqD.lst _, hnm, by omega, fun ps ok l n => ?_⟩
    have ll := len_lenP ps
    walk_at "mgo"
    refine ⟨_, rfl, ps, SeqD.lst _, by omega, by omega, by omega, ?_⟩
    walk_at "mgo"
    rw [cutD_map]
    walk_at "dat"
    refine d_sum (SeqD.lst _) ?_
    walk_at "mgo"
    refine ⟨_, rfl, fun bs ob => ?_⟩
    walk_at "mgo"
    rw [cutD_map]
    walk_at "dat"
    refine d_sum (SeqD.lst _) ?_
    walk_at "mgo"
    refine ⟨_, rfl, fun qs h8 hq => ?_⟩
    walk_at "mgo"
    intro F hF
    walk_at "mgo"
    refine ⟨fun k e W' => e = [some (.scr ns), some (.lst [.str n0, .str n1, .str n2]), some (.raw (.int ((12 * i : Nat) : Int))), some (.lst (cs.map D.int)), some (.lst (psD d ps)), some (.lst (bs.map D.int)), some (.lst (qs.map D.int)), some (.ptr F), none, none] ∧ W' = wset W0 F (.dct (slD (qs.take k))), ?_, fun _ _ _ _ _ => trivial, ?_, ?_⟩
    · exact nx_le (by walk_at "le") ⟨rfl, by rw [List.take_zero]; rfl⟩
    · rintro k u e' W' hk hu ⟨rfl, rfl⟩
      have hk : k < 8 := hk
      cases hu
      have hF2 : wset W0 F (.dct (slD (qs.take k))) F = some (.dct (slD (qs.take k))) := ws_same
      obtain ⟨v, hv⟩ : ∃ v, qs[k]? = some v := ⟨_, List.getElem?_eq_getElem (by omega)⟩
      have hp := putKD_slN (qs.take k) v
      rw [List.length_take, Nat.min_eq_left (by omega)] at hp
      have ht : qs.take k ++ [v] = qs.take (k + 1) := by rw [List.take_succ, hv]; rfl
      rw [ht] at hp
      walk_at "mgo"
      have ek : (0 + ((k : Nat) : Int) * 1) = ((k : Nat) : Int) := by omega
      rw [ek]
      refine d_ixL (SeqD.lst _) (d := .raw (.int v)) (atI_nat (by rw [List.getElem?_map, hv]; rfl)) ?_
      walk_at "mgo"
      refine d_ixAH (by omega) (by omega) ?_
      walk_at "mgo"
      refine d_dputS hF2 (by unfold slD; rw [slDf_len, sizeLine_eq, List.length_take]; omega) ?_
      rw [Int.toNat_natCast, hp]
      walk_at "mgo"
      exact nx_le (by walk_at "le") ⟨rfl, rfl⟩
    · rintro e' W' ⟨rfl, rfl⟩
      rw [show (itR 0 1 (Int.toNat 8)).n = 8 from rfl, List.take_of_length_le (by omega)]
      walk_at "mgo"
      refine ⟨_, rfl, ps, SeqD.lst _, by omega, by omega, fun q2 hq2 => ?_⟩
      refine fz_new hq2 ?_
      walk_at "mgo"
      obtain ⟨n2, hrun⟩ := run_deed (bs := bs) (σ := ⟨qs, [[]], []⟩) ok (by omega)
      generalize hg : goPs bs ps ⟨qs, [[]], []⟩ = r at hrun
      obtain ⟨e, τ⟩ := r
      refine ⟨_, bs, qs, F, rfl, ws_same, h8, hq, ob, n2, e, τ, hrun, ?_⟩
      walk_at "mgo"
      refine d_isND (fun w z => by unfold dueD at z; cases z) ?_
      walk_at "mgo"
      walk_at "dat"
      walk_at "dat"
      refine alone_go (SeqD.lst _) (SeqD.lst _) ob h8 hq ok (by omega) ?_
      intro x1 l1 l2 l3 e3 ρ3 hg3 ed nz b1 b2 b3 u v w hu hv hw
      rw [hg] at hg3
      cases hg3
      rw [ed]
      have nuv : u ≠ v := ne_w ws_same hv
      have nuw : u ≠ w := ne_w (ws_lk nuv ws_same) hw
      have nvw : v ≠ w := ne_w ws_same hw
      walk_at "mgo"
      refine m_alikeA (due_at (ws_lk nuw (ws_lk nuv ws_same)) (ws_lk nvw ws_same) ws_same) (.at' (.id _)) nz ?_
      walk_at "mgo"
      exact nx_of (by walk_at "le") (fun x c h => by cases h) ⟨rfl, rfl⟩
  · rintro e' W' ⟨rfl, rfl⟩
    walk_at "mgo"
    exact ret_dat (Sub.refl _) rfl
end
end
end RT
set_option Elab.async false
set_option linter.all false
set_option maxRecDepth 100000
set_option maxHeartbeats 2000000
namespace Row
open PySem L2 RT
local macro_rules | `(tactic| walk_at "putf") => `(tactic| first | exact putF_nil | exact putF_hit | exact putF_miss (by decide) (by walk_at "putf"))
local macro_rules | `(tactic| walk_at "ne") => `(tactic| first | assumption | exact Ne.symm (by assumption) | ((refine' ne2 ?h1 ?h2); (case h1 => assumption); (case h2 => walk_at "hk")) | ((refine' ne2s ?h1 ?h2); (case h1 => assumption); (case h2 => walk_at "hk")) | exact ne_head (by assumption) | exact ne_of (by assumption) (by assumption) (by intro z; cases z))
local macro_rules | `(tactic| walk_at "hk") => `(tactic| first | assumption | with_reducible exact upd_same | ((with_reducible refine' up_ne ?h1 ?h2); (case h1 => walk_at "ne"); (case h2 => walk_at "hk")) | ((with_reducible refine' ex_at ?h1 ?h2); (case h1 => assumption); (case h2 => walk_at "hk")))
local macro_rules | `(tactic| walk_at "kit") => `(tactic| first | exact kit_int_int | exact kit_int_bool | exact kit_int_str | exact kit_int_list | exact kit_int_tuple | exact kit_int_dict | exact kit_bool_int | exact kit_bool_bool | exact kit_bool_str | exact kit_bool_list | exact kit_bool_tuple | exact kit_bool_dict | exact kit_str_int | exact kit_str_bool | exact kit_str_str | exact kit_str_list | exact kit_str_tuple | exact kit_str_dict | exact kit_NoneType_int | exact kit_NoneType_bool | exact kit_NoneType_str | exact kit_NoneType_list | exact kit_NoneType_tuple | exact kit_NoneType_dict | exact kit_list_int | exact kit_list_bool | exact kit_list_str | exact kit_list_list | exact kit_list_tuple | exact kit_list_dict | exact kit_tuple_int | exact kit_tuple_bool | exact kit_tuple_str | exact kit_tuple_list | exact kit_tuple_tuple | exact kit_tuple_dict | exact kit_dict_int | exact kit_dict_bool | exact kit_dict_str | exact kit_dict_list | exact kit_dict_tuple | exact kit_dict_dict)
local macro_rules | `(tactic| walk_at "sq") => `(tactic| first | assumption | ((with_reducible refine' SqL.of ?h); (case h => walk_at "hk")) | ((with_reducible refine' ex_sq ?h1 ?h2); (case h1 => assumption); (case h2 => walk_at "sq")))
local macro_rules | `(tactic| walk_at "st") => `(tactic| first | assumption | ((with_reducible refine' SqT.of ?h); (case h => walk_at "hk")) | ((with_reducible refine' ex_st ?h1 ?h2); (case h1 => assumption); (case h2 => walk_at "st")))
local macro_rules | `(tactic| walk_at "new") => `(tactic| (intro p hp; generalize hU : upd _ p _ = H'; have e1 := new_ex hp hU; have e2 := new_at hU; clear hU))
local macro_rules | `(tactic| walk_at "set") => `(tactic| ((try simp only [List.set_cons_succ, List.set_cons_zero]); rfl))
local macro_rules | `(tactic| walk_at "small") => `(tactic| first | assumption | (rw [sizeLine_eq]; (try simp only [List.length_cons, List.length_nil, str_len_app, sign_len]); omega) | (with_unfolding_all decide))
local macro_rules | `(tactic| walk_at "sc") => `(tactic| first | assumption | decide | omega | (unfold CMul; omega) | (unfold CDiv; omega) | (unfold CPow; decide) | (unfold CDiv; decide))
local macro_rules | `(tactic| walk_at "step") => `(tactic| first
  | with_reducible refine' w_seq ?_
  | with_reducible refine' w_op ?_
  | ((with_reducible refine' w_var ?h ?_); (case h => rfl))
  | with_reducible refine' w_c ?_
  | with_reducible refine' w_i0 ?_
  | with_reducible refine' w_cons ?_
  | with_reducible refine' w_nil ?_
  | with_reducible refine' w_asg ?_
  | ((with_reducible refine' w_gn ?e ?_); (case e => walk_at "set"))
  | with_reducible refine' w_ifS ?_
  | with_reducible refine' w_test ?_
  | with_reducible refine' w_tB ?_
  | with_reducible refine' w_bl ?_
  | with_reducible refine' w_int ?_
  | with_reducible refine' w_ref ?_
  | with_reducible refine' w_str ?_
  | with_reducible refine' w_eqI ?_
  | with_reducible refine' w_neI ?_
  | with_reducible refine' w_eqS ?_
  | with_reducible refine' w_neS ?_
  | with_reducible refine' w_ret ?_
  | with_reducible refine' w_for ?_
  | with_reducible refine' w_tFld ?_
  | ((with_reducible refine' w_fld ?h ?c ?n ?l ?_); (case h => walk_at "hk"); (case c => assumption); (case n => assumption); (case l => rfl))
  | with_reducible refine' w_sFld ?_
  | ((with_reducible refine' w_rsFld ?h ?c ?n ?l ?e ?_); (case h => walk_at "hk"); (case c => assumption); (case n => assumption); (case e => walk_at "putf"); (case l => (simp only [List.length_cons, List.length_nil]; omega)))
  | with_reducible refine' w_tDGet ?_
  | with_reducible refine' w_tDIn ?_
  | with_reducible refine' w_tDNotIn ?_
  | ((with_reducible refine' w_dinI ?h ?_); (case h => walk_at "hk"))
  | with_reducible refine' w_sDPut ?_
  | with_reducible refine' w_bm ?_
  | with_reducible refine' w_bm0 ?_
  | ((with_reducible refine' w_tyL ?h ?_); (case h => walk_at "sq"))
  | with_reducible refine' w_iRev ?_
  | ((with_reducible refine' w_rev1 ?h ?_); (case h => walk_at "sq"))
  | with_reducible refine' w_iItems ?_
  | with_reducible refine' w_iKeys ?_
  | with_reducible refine' w_iRng3 ?_
  | with_reducible refine' w_iZip ?_
  | with_reducible refine' w_gCons ?_
  | with_reducible refine' w_gNil ?_
  | ((with_reducible refine' w_gTup ?h ?l ?_); (case h => walk_at "st"); (case l => rfl))
  | with_reducible refine' w_m1 ?_
  | with_reducible refine' w_isS ?_
  | with_reducible refine' w_lc ?_
  | with_reducible refine' w_iList ?_
  | with_reducible refine' w_iTup ?_
  | with_reducible refine' w_iStr ?_
  | with_reducible refine' w_iRng1 ?_
  | with_reducible refine' w_iRng2 ?_
  | with_reducible refine' w_v1I ?_
  | with_reducible refine' w_v2I ?_
  | with_reducible refine' w_next ?_
  | with_reducible refine' w_call ?_
  | with_reducible refine' w_cb ?_
  | with_reducible refine' w_and ?_
  | with_reducible refine' w_or ?_
  | with_reducible refine' w_not ?_
  | with_reducible refine' w_andV ?_
  | with_reducible refine' w_orV ?_
  | with_reducible refine' w_notV ?_
  | with_reducible refine' w_ifE ?_
  | with_reducible refine' w_drop ?_
  | with_reducible refine' w_un ?_
  | with_reducible refine' w_u ?_
  | with_reducible refine' w_isNN ?_
  | with_reducible refine' w_isNI ?_
  | with_reducible refine' w_isNS ?_
  | with_reducible refine' w_isNR ?_
  | with_reducible refine' w_notNN ?_
  | with_reducible refine' w_notNI ?_
  | with_reducible refine' w_notNS ?_
  | with_reducible refine' w_notNR ?_
  | with_reducible refine' w_int1 ?_
  | with_reducible refine' w_int1b ?_
  | with_reducible refine' w_tup ?_
  | with_reducible refine' w_lst ?_
  | with_reducible refine' w_dnew ?_
  | with_reducible refine' w_sl ?_
  | with_reducible refine' w_noPart ?_
  | with_reducible refine' w_part ?_
  | with_reducible refine' w_retN ?_
  | with_reducible refine' w_brk ?_
  | with_reducible refine' w_cont ?_
  | with_reducible refine' w_chain ?_
  | with_reducible refine' w_lt ?_
  | with_reducible refine' w_le ?_
  | with_reducible refine' w_gt ?_
  | with_reducible refine' w_ge ?_
  | with_reducible refine' w_ltS ?_
  | with_reducible refine' w_leS ?_
  | with_reducible refine' w_gtS ?_
  | with_reducible refine' w_geS ?_
  | ((with_reducible refine' w_addS ?h ?_); (case h => walk_at "small"))
  | with_reducible refine' w_inS ?_
  | with_reducible refine' w_ninS ?_
  | with_reducible refine' w_par ?_
  | with_reducible refine' w_v2 ?_
  | with_reducible refine' w_max2 ?_
  | with_reducible refine' w_min2 ?_
  | with_reducible refine' w_tru ?_
  | with_reducible refine' w_meth ?_
  | ((with_reducible refine' w_meth1 ?h ?l ?_); (case h => walk_at "hk"); (case l => rfl))
  | with_reducible refine' w_make ?_
  | ((with_reducible refine' w_isiI ?h ?_); (case h => walk_at "kit"))
  | ((with_reducible refine' w_isiB ?h ?_); (case h => walk_at "kit"))
  | ((with_reducible refine' w_isiN ?h ?_); (case h => walk_at "kit"))
  | ((with_reducible refine' w_isiS ?h ?_); (case h => walk_at "kit"))
  | ((with_reducible refine' w_isiSL ?h ?e ?_); (case h => walk_at "sq"); (case e => walk_at "kit"))
  | ((with_reducible refine' w_isiST ?h ?e ?_); (case h => walk_at "st"); (case e => walk_at "kit"))
  | ((with_reducible refine' w_i ?h ?_); (case h => walk_at "sc"))
  | with_reducible refine' w_ttL ?_
  | with_reducible refine' w_ffL ?_
  | ((with_reducible refine' w_tt ?h ?_); (case h => first | exact dB_t (by decide) | exact nB_t (by decide) | decide))
  | ((with_reducible refine' w_ff ?h ?_); (case h => first | exact dB_f (by decide) | exact nB_f (by decide) | decide))
  | ((with_reducible refine' w_lenS ?h ?_); (case h => walk_at "sq"))
  | ((with_reducible refine' w_lenT ?h ?_); (case h => walk_at "st"))
  | ((with_reducible refine' w_slL ?h ?_); (case h => walk_at "sq"))
  | ((with_reducible refine' w_aug ?h ?_); (case h => rfl))
  | with_reducible refine' w_ip ?_
  | ((with_reducible refine' w_cat ?h1 ?h2 ?h3 ?_); (case h1 => walk_at "hk"); (case h2 => walk_at "hk"); (case h3 => walk_at "small"))
  | ((with_reducible refine' w_ixL ?h1 ?h2 ?_); (case h1 => walk_at "sq"); (case h2 => rfl))
  | ((with_reducible refine' w_ixT ?h1 ?h2 ?_); (case h1 => walk_at "st"); (case h2 => rfl))
  | ((with_reducible refine' w_lenStr ?h ?_); (case h => walk_at "small"))
  | ((with_reducible refine' w_slS ?h ?_); (case h => walk_at "small"))
  | ((with_reducible refine' w_sz ?h ?_); (case h => walk_at "small")))
local macro_rules | `(tactic| walk_at "go") => `(tactic| (repeat (first | walk_at "step" | walk_at "callx")))
local macro_rules | `(tactic| walk_at "goN") => `(tactic| (repeat (first | walk_at "step" | walk_at "callx" | ((with_reducible show ∀ p, _ = none → _); walk_at "new"))))
local macro_rules | `(tactic| walk_at "len") => `(tactic| first
  | (obtain ⟨rfl, _⟩ := h; rfl) | (obtain ⟨_, rfl, _⟩ := h; rfl) | (obtain ⟨_, _, rfl, _⟩ := h; rfl) | (obtain ⟨_, _, _, rfl, _⟩ := h; rfl) | (obtain ⟨_, _, _, _, rfl, _⟩ := h; rfl)
  | (obtain ⟨_, _, _, _, _, rfl, _⟩ := h; rfl) | (obtain ⟨_, _, _, _, _, _, rfl, _⟩ := h; rfl) | (obtain ⟨_, _, _, _, _, _, _, rfl, _⟩ := h; rfl) | (obtain ⟨_, _, _, _, _, _, _, _, rfl, _⟩ := h; rfl)
  | (obtain ⟨_, _, _, _, _, _, _, _, _, rfl, _⟩ := h; rfl) | (obtain ⟨_, _, _, _, _, _, _, _, _, _, rfl, _⟩ := h; rfl))
local macro_rules | `(tactic| walk_at "dec") => `(tactic| (first | with_reducible apply w_dec | with_reducible apply w_ndec | with_reducible apply w_bool) <;> intro hc)
def top (i : Nat) : Stmt := PySem.Challenge.pw_retryhall_k20_whole_alone_by_rows.main.body.getD i (.Pass ⟨0, 0, 0, 0⟩)
abbrev s_Let_init : Stmt := inClass (top 6) 0
abbrev NR_Let_init : List Str := ["self", "slot", "number"]
theorem sc_Let_init : FnScope NR_Let_init ["self", "slot", "number"] (defScope s_Let_init) := ⟨rfl, rfl, rfl, by decide +kernel, rfl, by decide +kernel, by decide +kernel⟩
abbrev s_Reckon_init : Stmt := inClass (top 7) 0
abbrev NR_Reckon_init : List Str := ["self", "word", "slot", "one", "other"]
theorem sc_Reckon_init : FnScope NR_Reckon_init ["self", "word", "slot", "one", "other"] (defScope s_Reckon_init) := ⟨rfl, rfl, rfl, by decide +kernel, rfl, by decide +kernel, by decide +kernel⟩
abbrev s_Take_init : Stmt := inClass (top 8) 0
abbrev NR_Take_init : List Str := ["self", "slot", "place"]
theorem sc_Take_init : FnScope NR_Take_init ["self", "slot", "place"] (defScope s_Take_init) := ⟨rfl, rfl, rfl, by decide +kernel, rfl, by decide +kernel, by decide +kernel⟩
abbrev s_Put_init : Stmt := inClass (top 9) 0
abbrev NR_Put_init : List Str := ["self", "place", "slot"]
theorem sc_Put_init : FnScope NR_Put_init ["self", "place", "slot"] (defScope s_Put_init) := ⟨rfl, rfl, rfl, by decide +kernel, rfl, by decide +kernel, by decide +kernel⟩
abbrev s_If_init : Stmt := inClass (top 10) 0
abbrev NR_If_init : List Str := ["self", "slot", "parts", "others"]
theorem sc_If_init : FnScope NR_If_init ["self", "slot", "parts", "others"] (defScope s_If_init) := ⟨rfl, rfl, rfl, by decide +kernel, rfl, by decide +kernel, by decide +kernel⟩
abbrev s_Either_init : Stmt := inClass (top 11) 0
abbrev NR_Either_init : List Str := ["self", "parts", "others"]
theorem sc_Either_init : FnScope NR_Either_init ["self", "parts", "others"] (defScope s_Either_init) := ⟨rfl, rfl, rfl, by decide +kernel, rfl, by decide +kernel, by decide +kernel⟩
abbrev s_Try_init : Stmt := inClass (top 12) 0
abbrev NR_Try_init : List Str := ["self", "parts", "name", "slot", "others"]
theorem sc_Try_init : FnScope NR_Try_init ["self", "parts", "name", "slot", "others"] (defScope s_Try_init) := ⟨rfl, rfl, rfl, by decide +kernel, rfl, by decide +kernel, by decide +kernel⟩
abbrev s_Throw_init : Stmt := inClass (top 13) 0
abbrev NR_Throw_init : List Str := ["self", "name", "slot"]
theorem sc_Throw_init : FnScope NR_Throw_init ["self", "name", "slot"] (defScope s_Throw_init) := ⟨rfl, rfl, rfl, by decide +kernel, rfl, by decide +kernel, by decide +kernel⟩
abbrev s_plain_row : Stmt := top 23
abbrev NR_plain_row : List Str := ["part"]
theorem sc_plain_row : FnScope NR_plain_row ["part"] (defScope s_plain_row) := ⟨rfl, rfl, rfl, by decide +kernel, rfl, by decide +kernel, by decide +kernel⟩
abbrev s_two_sides : Stmt := top 24
abbrev NR_two_sides : List Str := ["head", "part", "first", "closing", "one", "target", "other"]
theorem sc_two_sides : FnScope NR_two_sides ["head", "part", "first", "closing"] (defScope s_two_sides) := ⟨rfl, rfl, rfl, by decide +kernel, rfl, by decide +kernel, by decide +kernel⟩
abbrev s_part_rows : Stmt := top 25
abbrev NR_part_rows : List Str := ["part", "first"]
theorem sc_part_rows : FnScope NR_part_rows ["part", "first"] (defScope s_part_rows) := ⟨rfl, rfl, rfl, by decide +kernel, rfl, by decide +kernel, by decide +kernel⟩
abbrev s_rows_from : Stmt := top 26
abbrev NR_rows_from : List Str := ["parts", "first", "rows", "part"]
theorem sc_rows_from : FnScope NR_rows_from ["parts", "first"] (defScope s_rows_from) := ⟨rfl, rfl, rfl, by decide +kernel, rfl, by decide +kernel, by decide +kernel⟩
abbrev s_rows_of : Stmt := top 27
abbrev NR_rows_of : List Str := ["deed"]
theorem sc_rows_of : FnScope NR_rows_of ["deed"] (defScope s_rows_of) := ⟨rfl, rfl, rfl, by decide +kernel, rfl, by decide +kernel, by decide +kernel⟩
abbrev s_by_boxes : Stmt := top 2
abbrev NR_by_boxes : List Str := ["found", "box"]
theorem sc_by_boxes : FnScope NR_by_boxes ["found"] (defScope s_by_boxes) := ⟨rfl, rfl, rfl, by decide +kernel, rfl, by decide +kernel, by decide +kernel⟩
abbrev s_Log_init : Stmt := inClass (top 3) 0
abbrev NR_Log_init : List Str := ["self"]
theorem sc_Log_init : FnScope NR_Log_init ["self"] (defScope s_Log_init) := ⟨rfl, rfl, rfl, by decide +kernel, rfl, by decide +kernel, by decide +kernel⟩
abbrev s_Log_write : Stmt := inClass (top 3) 1
abbrev NR_Log_write : List Str := ["self", "box", "number"]
theorem sc_Log_write : FnScope NR_Log_write ["self", "box", "number"] (defScope s_Log_write) := ⟨rfl, rfl, rfl, by decide +kernel, rfl, by decide +kernel, by decide +kernel⟩
abbrev s_Log_own : Stmt := inClass (top 3) 2
abbrev NR_Log_own : List Str := ["self", "box", "tier"]
theorem sc_Log_own : FnScope NR_Log_own ["self", "box"] (defScope s_Log_own) := ⟨rfl, rfl, rfl, by decide +kernel, rfl, by decide +kernel, by decide +kernel⟩
abbrev s_Log_begin : Stmt := inClass (top 3) 3
abbrev NR_Log_begin : List Str := ["self"]
theorem sc_Log_begin : FnScope NR_Log_begin ["self"] (defScope s_Log_begin) := ⟨rfl, rfl, rfl, by decide +kernel, rfl, by decide +kernel, by decide +kernel⟩
abbrev s_Log_settle : Stmt := inClass (top 3) 4
abbrev NR_Log_settle : List Str := ["self", "top", "box", "number"]
theorem sc_Log_settle : FnScope NR_Log_settle ["self"] (defScope s_Log_settle) := ⟨rfl, rfl, rfl, by decide +kernel, rfl, by decide +kernel, by decide +kernel⟩
abbrev s_Log_drop : Stmt := inClass (top 3) 5
abbrev NR_Log_drop : List Str := ["self"]
theorem sc_Log_drop : FnScope NR_Log_drop ["self"] (defScope s_Log_drop) := ⟨rfl, rfl, rfl, by decide +kernel, rfl, by decide +kernel, by decide +kernel⟩
abbrev s_Log_see : Stmt := inClass (top 3) 7
abbrev NR_Log_see : List Str := ["self", "box", "number"]
theorem sc_Log_see : FnScope NR_Log_see ["self", "box", "number"] (defScope s_Log_see) := ⟨rfl, rfl, rfl, by decide +kernel, rfl, by decide +kernel, by decide +kernel⟩
abbrev s_Log_saw : Stmt := inClass (top 3) 8
abbrev NR_Log_saw : List Str := ["self"]
theorem sc_Log_saw : FnScope NR_Log_saw ["self"] (defScope s_Log_saw) := ⟨rfl, rfl, rfl, by decide +kernel, rfl, by decide +kernel, by decide +kernel⟩
abbrev s_Log_wrote : Stmt := inClass (top 3) 9
abbrev NR_Log_wrote : List Str := ["self"]
theorem sc_Log_wrote : FnScope NR_Log_wrote ["self"] (defScope s_Log_wrote) := ⟨rfl, rfl, rfl, by decide +kernel, rfl, by decide +kernel, by decide +kernel⟩
abbrev s_reckon : Stmt := top 17
abbrev NR_reckon : List Str := ["word", "one", "other"]
theorem sc_reckon : FnScope NR_reckon ["word", "one", "other"] (defScope s_reckon) := ⟨rfl, rfl, rfl, by decide +kernel, rfl, by decide +kernel, by decide +kernel⟩
abbrev s_Doer_init : Stmt := inClass (top 20) 0
abbrev NR_Doer_init : List Str := ["self", "boxes", "slots"]
theorem sc_Doer_init : FnScope NR_Doer_init ["self", "boxes", "slots"] (defScope s_Doer_init) := ⟨rfl, rfl, rfl, by decide +kernel, rfl, by decide +kernel, by decide +kernel⟩
abbrev s_Doer_look : Stmt := inClass (top 20) 1
abbrev NR_Doer_look : List Str := ["self", "letter"]
theorem sc_Doer_look : FnScope NR_Doer_look ["self", "letter"] (defScope s_Doer_look) := ⟨rfl, rfl, rfl, by decide +kernel, rfl, by decide +kernel, by decide +kernel⟩
abbrev s_Doer_give : Stmt := inClass (top 20) 2
abbrev NR_Doer_give : List Str := ["self", "letter", "number"]
theorem sc_Doer_give : FnScope NR_Doer_give ["self", "letter", "number"] (defScope s_Doer_give) := ⟨rfl, rfl, rfl, by decide +kernel, rfl, by decide +kernel, by decide +kernel⟩
abbrev s_Doer_box_at : Stmt := inClass (top 20) 3
abbrev NR_Doer_box_at : List Str := ["self", "letter"]
theorem sc_Doer_box_at : FnScope NR_Doer_box_at ["self", "letter"] (defScope s_Doer_box_at) := ⟨rfl, rfl, rfl, by decide +kernel, rfl, by decide +kernel, by decide +kernel⟩
abbrev s_Doer_take_in : Stmt := inClass (top 20) 4
abbrev NR_Doer_take_in : List Str := ["self", "part", "box", "number"]
theorem sc_Doer_take_in : FnScope NR_Doer_take_in ["self", "part"] (defScope s_Doer_take_in) := ⟨rfl, rfl, rfl, by decide +kernel, rfl, by decide +kernel, by decide +kernel⟩
abbrev s_Doer_do_plain : Stmt := inClass (top 20) 7
abbrev NR_Doer_do_plain : List Str := ["self", "part"]
theorem sc_Doer_do_plain : FnScope NR_Doer_do_plain ["self", "part"] (defScope s_Doer_do_plain) := ⟨rfl, rfl, rfl, by decide +kernel, rfl, by decide +kernel, by decide +kernel⟩
abbrev s_Doer_do_either : Stmt := inClass (top 20) 8
abbrev NR_Doer_do_either : List Str := ["self", "part", "kept", "end"]
theorem sc_Doer_do_either : FnScope NR_Doer_do_either ["self", "part"] (defScope s_Doer_do_either) := ⟨rfl, rfl, rfl, by decide +kernel, rfl, by decide +kernel, by decide +kernel⟩
abbrev s_Doer_do_try : Stmt := inClass (top 20) 9
abbrev NR_Doer_do_try : List Str := ["self", "part", "kept", "end"]
theorem sc_Doer_do_try : FnScope NR_Doer_do_try ["self", "part"] (defScope s_Doer_do_try) := ⟨rfl, rfl, rfl, by decide +kernel, rfl, by decide +kernel, by decide +kernel⟩
abbrev s_Doer_do_part : Stmt := inClass (top 20) 6
abbrev NR_Doer_do_part : List Str := ["self", "part"]
theorem sc_Doer_do_part : FnScope NR_Doer_do_part ["self", "part"] (defScope s_Doer_do_part) := ⟨rfl, rfl, rfl, by decide +kernel, rfl, by decide +kernel, by decide +kernel⟩
abbrev s_Doer_do_all : Stmt := inClass (top 20) 5
abbrev NR_Doer_do_all : List Str := ["self", "parts", "part", "end"]
theorem sc_Doer_do_all : FnScope NR_Doer_do_all ["self", "parts"] (defScope s_Doer_do_all) := ⟨rfl, rfl, rfl, by decide +kernel, rfl, by decide +kernel, by decide +kernel⟩
abbrev s_alone : Stmt := top 21
abbrev NR_alone : List Str := ["deed", "boxes", "slots", "doer", "end"]
theorem sc_alone : FnScope NR_alone ["deed", "boxes", "slots"] (defScope s_alone) := ⟨rfl, rfl, rfl, by decide +kernel, rfl, by decide +kernel, by decide +kernel⟩
abbrev s_l_mixed : Stmt := top 29
abbrev NR_l_mixed : List Str := ["_law_cell"]
theorem sc_l_mixed : FnScope NR_l_mixed ["_law_cell"] (defScope s_l_mixed) := ⟨rfl, rfl, rfl, by decide +kernel, rfl, by decide +kernel, by decide +kernel⟩
abbrev s_l_wide : Stmt := top 30
abbrev NR_l_wide : List Str := ["_law_cell"]
theorem sc_l_wide : FnScope NR_l_wide ["_law_cell"] (defScope s_l_wide) := ⟨rfl, rfl, rfl, by decide +kernel, rfl, by decide +kernel, by decide +kernel⟩
abbrev s_l_names : Stmt := top 32
abbrev NR_l_names : List Str := ["_law_cell", "_law_letters", "_law_mixed_here", "_law_size", "_law_at", "_law_names_here", "_law_turn", "_law_name", "_law_k", "_law_sign"]
theorem sc_l_names : FnScope NR_l_names ["_law_cell"] (defScope s_l_names) := ⟨rfl, rfl, rfl, by decide +kernel, rfl, by decide +kernel, by decide +kernel⟩
abbrev s_l_alike : Stmt := top 31
abbrev NR_l_alike : List Str := ["_law_found", "_law_due", "_law_k"]
theorem sc_l_alike : FnScope NR_l_alike ["_law_found", "_law_due"] (defScope s_l_alike) := ⟨rfl, rfl, rfl, by decide +kernel, rfl, by decide +kernel, by decide +kernel⟩
abbrev s_l_plain : Stmt := top 33
abbrev NR_l_plain : List Str := ["_law_mixed_here", "_law_cell", "_law_letters", "_law_many", "_law_rest", "_law_one", "_law_other", "_law_third", "_law_way", "_law_word", "_law_tree_here"]
theorem sc_l_plain : FnScope NR_l_plain ["_law_mixed_here", "_law_cell"] (defScope s_l_plain) := ⟨rfl, rfl, rfl, by decide +kernel, rfl, by decide +kernel, by decide +kernel⟩
abbrev s_l_sided : Stmt := top 34
abbrev NR_l_sided : List Str := ["_law_mixed_here", "_law_one", "_law_other", "_law_names_here", "_law_letters", "_law_slot", "_law_way", "_law_stop"]
theorem sc_l_sided : FnScope NR_l_sided ["_law_mixed_here", "_law_one", "_law_other", "_law_names_here"] (defScope s_l_sided) := ⟨rfl, rfl, rfl, by decide +kernel, rfl, by decide +kernel, by decide +kernel⟩
abbrev s_l_tree : Stmt := top 35
abbrev NR_l_tree : List Str := ["_law_cells", "_law_depth", "_law_names_here", "_law_tree_here", "_law_at", "_law_cell", "_law_mixed_here", "_law_stops", "_law_many", "_law_more", "_law_one", "_law_other"]
theorem sc_l_tree : FnScope NR_l_tree ["_law_cells", "_law_depth", "_law_names_here"] (defScope s_l_tree) := ⟨rfl, rfl, rfl, by decide +kernel, rfl, by decide +kernel, by decide +kernel⟩
abbrev s_l_made : Stmt := top 36
abbrev NR_l_made : List Str := ["_law_tree_here", "_law_made_here", "_law_part"]
theorem sc_l_made : FnScope NR_l_made ["_law_tree_here"] (defScope s_l_made) := ⟨rfl, rfl, rfl, by decide +kernel, rfl, by decide +kernel, by decide +kernel⟩
abbrev s_l_boxes : Stmt := top 37
abbrev NR_l_boxes : List Str := ["_law_cell", "_law_mixed_here", "_law_many", "_law_boxes_here", "_law_k", "_law_some"]
theorem sc_l_boxes : FnScope NR_l_boxes ["_law_cell"] (defScope s_l_boxes) := ⟨rfl, rfl, rfl, by decide +kernel, rfl, by decide +kernel, by decide +kernel⟩
abbrev s_l_slots : Stmt := top 38
abbrev NR_l_slots : List Str := ["_law_cell", "_law_mixed_here", "_law_slots_here", "_law_k"]
theorem sc_l_slots : FnScope NR_l_slots ["_law_cell"] (defScope s_l_slots) := ⟨rfl, rfl, rfl, by decide +kernel, rfl, by decide +kernel, by decide +kernel⟩
abbrev s_l_sum : Stmt := top 39
abbrev NR_l_sum : List Str := ["_law_word", "_law_one", "_law_other"]
theorem sc_l_sum : FnScope NR_l_sum ["_law_word", "_law_one", "_law_other"] (defScope s_l_sum) := ⟨rfl, rfl, rfl, by decide +kernel, rfl, by decide +kernel, by decide +kernel⟩
abbrev s_l_pairs : Stmt := top 40
abbrev NR_l_pairs : List Str := ["_law_found", "_law_box"]
theorem sc_l_pairs : FnScope NR_l_pairs ["_law_found"] (defScope s_l_pairs) := ⟨rfl, rfl, rfl, by decide +kernel, rfl, by decide +kernel, by decide +kernel⟩
abbrev s_l_mark : Stmt := top 41
abbrev NR_l_mark : List Str := ["_law_marks", "_law_row", "_law_k"]
theorem sc_l_mark : FnScope NR_l_mark ["_law_marks", "_law_row"] (defScope s_l_mark) := ⟨rfl, rfl, rfl, by decide +kernel, rfl, by decide +kernel, by decide +kernel⟩
abbrev s_l_end : Stmt := top 42
abbrev NR_l_end : List Str := ["_law_row", "_law_slots_here"]
theorem sc_l_end : FnScope NR_l_end ["_law_row", "_law_slots_here"] (defScope s_l_end) := ⟨rfl, rfl, rfl, by decide +kernel, rfl, by decide +kernel, by decide +kernel⟩
abbrev s_l_plain_row : Stmt := top 43
abbrev NR_l_plain_row : List Str := ["_law_row", "_law_boxes_here", "_law_saw", "_law_slots_here", "_law_written", "_law_box"]
theorem sc_l_plain_row : FnScope NR_l_plain_row ["_law_row", "_law_boxes_here", "_law_saw", "_law_slots_here", "_law_written"] (defScope s_l_plain_row) := ⟨rfl, rfl, rfl, by decide +kernel, rfl, by decide +kernel, by decide +kernel⟩
abbrev s_l_gone : Stmt := top 44
abbrev NR_l_gone : List Str := ["_law_rows", "_law_boxes_here", "_law_first", "_law_slots_here", "_law_written", "_law_saw", "_law_marks", "_law_at", "_law_row", "_law_k", "_law_end_here", "_law_sign"]
theorem sc_l_gone : FnScope NR_l_gone ["_law_rows", "_law_boxes_here", "_law_first"] (defScope s_l_gone) := ⟨rfl, rfl, rfl, by decide +kernel, rfl, by decide +kernel, by decide +kernel⟩
abbrev s_law : Stmt := top 45
abbrev NR_law : List Str := ["_law_script", "_law_names_here", "_law_at", "_law_cells", "_law_deed", "_law_boxes_here", "_law_slots_here", "_law_first", "_law_k", "_law_due"]
theorem sc_law : FnScope NR_law ["_law_script"] (defScope s_law) := ⟨rfl, rfl, rfl, by decide +kernel, rfl, by decide +kernel, by decide +kernel⟩
structure Fs where
  f_Let_init : Addr
  d_Let_init : FuncData
  f_Reckon_init : Addr
  d_Reckon_init : FuncData
  f_Take_init : Addr
  d_Take_init : FuncData
  f_Put_init : Addr
  d_Put_init : FuncData
  f_If_init : Addr
  d_If_init : FuncData
  f_Either_init : Addr
  d_Either_init : FuncData
  f_Try_init : Addr
  d_Try_init : FuncData
  f_Throw_init : Addr
  d_Throw_init : FuncData
  f_plain_row : Addr
  d_plain_row : FuncData
  f_two_sides : Addr
  d_two_sides : FuncData
  f_part_rows : Addr
  d_part_rows : FuncData
  f_rows_from : Addr
  d_rows_from : FuncData
  f_rows_of : Addr
  d_rows_of : FuncData
  f_by_boxes : Addr
  d_by_boxes : FuncData
  f_Log_init : Addr
  d_Log_init : FuncData
  f_Log_write : Addr
  d_Log_write : FuncData
  f_Log_own : Addr
  d_Log_own : FuncData
  f_Log_begin : Addr
  d_Log_begin : FuncData
  f_Log_settle : Addr
  d_Log_settle : FuncData
  f_Log_drop : Addr
  d_Log_drop : FuncData
  f_Log_see : Addr
  d_Log_see : FuncData
  f_Log_saw : Addr
  d_Log_saw : FuncData
  f_Log_wrote : Addr
  d_Log_wrote : FuncData
  f_reckon : Addr
  d_reckon : FuncData
  f_Doer_init : Addr
  d_Doer_init : FuncData
  f_Doer_look : Addr
  d_Doer_look : FuncData
  f_Doer_give : Addr
  d_Doer_give : FuncData
  f_Doer_box_at : Addr
  d_Doer_box_at : FuncData
  f_Doer_take_in : Addr
  d_Doer_take_in : FuncData
  f_Doer_do_plain : Addr
  d_Doer_do_plain : FuncData
  f_Doer_do_either : Addr
  d_Doer_do_either : FuncData
  f_Doer_do_try : Addr
  d_Doer_do_try : FuncData
  f_Doer_do_part : Addr
  d_Doer_do_part : FuncData
  f_Doer_do_all : Addr
  d_Doer_do_all : FuncData
  f_alone : Addr
  d_alone : FuncData
  f_l_mixed : Addr
  d_l_mixed : FuncData
  f_l_wide : Addr
  d_l_wide : FuncData
  f_l_names : Addr
  d_l_names : FuncData
  f_l_alike : Addr
  d_l_alike : FuncData
  f_l_plain : Addr
  d_l_plain : FuncData
  f_l_sided : Addr
  d_l_sided : FuncData
  f_l_tree : Addr
  d_l_tree : FuncData
  f_l_made : Addr
  d_l_made : FuncData
  f_l_boxes : Addr
  d_l_boxes : FuncData
  f_l_slots : Addr
  d_l_slots : FuncData
  f_l_sum : Addr
  d_l_sum : FuncData
  f_l_pairs : Addr
  d_l_pairs : FuncData
  f_l_mark : Addr
  d_l_mark : FuncData
  f_l_end : Addr
  d_l_end : FuncData
  f_l_plain_row : Addr
  d_l_plain_row : FuncData
  f_l_gone : Addr
  d_l_gone : FuncData
  f_law : Addr
  d_law : FuncData
  k_LETTERS : Tok
  k_WIDE : Tok
structure Txt (d : Ad) (mg : Str → Option Value) (z : Fs) : Prop where
  F_Let_init : Fun d.K "__init__" "Let.__init__" s_Let_init z.f_Let_init z.d_Let_init
  B_Let_init : Binds d.K z.d_Let_init ["self", "slot", "number"] []
  K_Let : Mk d.K d.cLet z.f_Let_init
  F_Reckon_init : Fun d.K "__init__" "Reckon.__init__" s_Reckon_init z.f_Reckon_init z.d_Reckon_init
  B_Reckon_init : Binds d.K z.d_Reckon_init ["self", "word", "slot", "one", "other"] []
  K_Reckon : Mk d.K d.cReckon z.f_Reckon_init
  F_Take_init : Fun d.K "__init__" "Take.__init__" s_Take_init z.f_Take_init z.d_Take_init
  B_Take_init : Binds d.K z.d_Take_init ["self", "slot", "place"] []
  K_Take : Mk d.K d.cTake z.f_Take_init
  F_Put_init : Fun d.K "__init__" "Put.__init__" s_Put_init z.f_Put_init z.d_Put_init
  B_Put_init : Binds d.K z.d_Put_init ["self", "place", "slot"] []
  K_Put : Mk d.K d.cPut z.f_Put_init
  F_If_init : Fun d.K "__init__" "If.__init__" s_If_init z.f_If_init z.d_If_init
  B_If_init : Binds d.K z.d_If_init ["self", "slot", "parts", "others"] []
  K_If : Mk d.K d.cIf z.f_If_init
  F_Either_init : Fun d.K "__init__" "Either.__init__" s_Either_init z.f_Either_init z.d_Either_init
  B_Either_init : Binds d.K z.d_Either_init ["self", "parts", "others"] []
  K_Either : Mk d.K d.cEither z.f_Either_init
  F_Try_init : Fun d.K "__init__" "Try.__init__" s_Try_init z.f_Try_init z.d_Try_init
  B_Try_init : Binds d.K z.d_Try_init ["self", "parts", "name", "slot", "others"] []
  K_Try : Mk d.K d.cTry z.f_Try_init
  F_Throw_init : Fun d.K "__init__" "Throw.__init__" s_Throw_init z.f_Throw_init z.d_Throw_init
  B_Throw_init : Binds d.K z.d_Throw_init ["self", "name", "slot"] []
  K_Throw : Mk d.K d.cThrow z.f_Throw_init
  F_plain_row : Fun d.K "plain_row" "plain_row" s_plain_row z.f_plain_row z.d_plain_row
  B_plain_row : Binds d.K z.d_plain_row ["part"] []
  m_plain_row : mg "plain_row" = some (.ref z.f_plain_row)
  F_two_sides : Fun d.K "two_sides" "two_sides" s_two_sides z.f_two_sides z.d_two_sides
  B_two_sides : Binds d.K z.d_two_sides ["head", "part", "first", "closing"] []
  m_two_sides : mg "two_sides" = some (.ref z.f_two_sides)
  F_part_rows : Fun d.K "part_rows" "part_rows" s_part_rows z.f_part_rows z.d_part_rows
  B_part_rows : Binds d.K z.d_part_rows ["part", "first"] []
  m_part_rows : mg "part_rows" = some (.ref z.f_part_rows)
  F_rows_from : Fun d.K "rows_from" "rows_from" s_rows_from z.f_rows_from z.d_rows_from
  B_rows_from : Binds d.K z.d_rows_from ["parts", "first"] []
  m_rows_from : mg "rows_from" = some (.ref z.f_rows_from)
  F_rows_of : Fun d.K "rows_of" "rows_of" s_rows_of z.f_rows_of z.d_rows_of
  B_rows_of : Binds d.K z.d_rows_of ["deed"] []
  m_rows_of : mg "rows_of" = some (.ref z.f_rows_of)
  F_by_boxes : Fun d.K "by_boxes" "by_boxes" s_by_boxes z.f_by_boxes z.d_by_boxes
  B_by_boxes : Binds d.K z.d_by_boxes ["found"] []
  m_by_boxes : mg "by_boxes" = some (.ref z.f_by_boxes)
  F_Log_init : Fun d.K "__init__" "Log.__init__" s_Log_init z.f_Log_init z.d_Log_init
  B_Log_init : Binds d.K z.d_Log_init ["self"] []
  K_Log : Mk d.K d.cLog z.f_Log_init
  F_Log_write : Fun d.K "write" "Log.write" s_Log_write z.f_Log_write z.d_Log_write
  B_Log_write : Binds d.K z.d_Log_write ["self", "box", "number"] []
  M_Log_write : Meth d.K d.cLog "write" z.f_Log_write
  F_Log_own : Fun d.K "own" "Log.own" s_Log_own z.f_Log_own z.d_Log_own
  B_Log_own : Binds d.K z.d_Log_own ["self", "box"] []
  M_Log_own : Meth d.K d.cLog "own" z.f_Log_own
  F_Log_begin : Fun d.K "begin" "Log.begin" s_Log_begin z.f_Log_begin z.d_Log_begin
  B_Log_begin : Binds d.K z.d_Log_begin ["self"] []
  M_Log_begin : Meth d.K d.cLog "begin" z.f_Log_begin
  F_Log_settle : Fun d.K "settle" "Log.settle" s_Log_settle z.f_Log_settle z.d_Log_settle
  B_Log_settle : Binds d.K z.d_Log_settle ["self"] []
  M_Log_settle : Meth d.K d.cLog "settle" z.f_Log_settle
  F_Log_drop : Fun d.K "drop" "Log.drop" s_Log_drop z.f_Log_drop z.d_Log_drop
  B_Log_drop : Binds d.K z.d_Log_drop ["self"] []
  M_Log_drop : Meth d.K d.cLog "drop" z.f_Log_drop
  F_Log_see : Fun d.K "see" "Log.see" s_Log_see z.f_Log_see z.d_Log_see
  B_Log_see : Binds d.K z.d_Log_see ["self", "box", "number"] []
  M_Log_see : Meth d.K d.cLog "see" z.f_Log_see
  F_Log_saw : Fun d.K "saw" "Log.saw" s_Log_saw z.f_Log_saw z.d_Log_saw
  B_Log_saw : Binds d.K z.d_Log_saw ["self"] []
  M_Log_saw : Meth d.K d.cLog "saw" z.f_Log_saw
  F_Log_wrote : Fun d.K "wrote" "Log.wrote" s_Log_wrote z.f_Log_wrote z.d_Log_wrote
  B_Log_wrote : Binds d.K z.d_Log_wrote ["self"] []
  M_Log_wrote : Meth d.K d.cLog "wrote" z.f_Log_wrote
  F_reckon : Fun d.K "reckon" "reckon" s_reckon z.f_reckon z.d_reckon
  B_reckon : Binds d.K z.d_reckon ["word", "one", "other"] []
  m_reckon : mg "reckon" = some (.ref z.f_reckon)
  F_Doer_init : Fun d.K "__init__" "Doer.__init__" s_Doer_init z.f_Doer_init z.d_Doer_init
  B_Doer_init : Binds d.K z.d_Doer_init ["self", "boxes", "slots"] []
  K_Doer : Mk d.K d.cDoer z.f_Doer_init
  F_Doer_look : Fun d.K "look" "Doer.look" s_Doer_look z.f_Doer_look z.d_Doer_look
  B_Doer_look : Binds d.K z.d_Doer_look ["self", "letter"] []
  M_Doer_look : Meth d.K d.cDoer "look" z.f_Doer_look
  F_Doer_give : Fun d.K "give" "Doer.give" s_Doer_give z.f_Doer_give z.d_Doer_give
  B_Doer_give : Binds d.K z.d_Doer_give ["self", "letter", "number"] []
  M_Doer_give : Meth d.K d.cDoer "give" z.f_Doer_give
  F_Doer_box_at : Fun d.K "box_at" "Doer.box_at" s_Doer_box_at z.f_Doer_box_at z.d_Doer_box_at
  B_Doer_box_at : Binds d.K z.d_Doer_box_at ["self", "letter"] []
  M_Doer_box_at : Meth d.K d.cDoer "box_at" z.f_Doer_box_at
  F_Doer_take_in : Fun d.K "take_in" "Doer.take_in" s_Doer_take_in z.f_Doer_take_in z.d_Doer_take_in
  B_Doer_take_in : Binds d.K z.d_Doer_take_in ["self", "part"] []
  M_Doer_take_in : Meth d.K d.cDoer "take_in" z.f_Doer_take_in
  F_Doer_do_plain : Fun d.K "do_plain" "Doer.do_plain" s_Doer_do_plain z.f_Doer_do_plain z.d_Doer_do_plain
  B_Doer_do_plain : Binds d.K z.d_Doer_do_plain ["self", "part"] []
  M_Doer_do_plain : Meth d.K d.cDoer "do_plain" z.f_Doer_do_plain
  F_Doer_do_either : Fun d.K "do_either" "Doer.do_either" s_Doer_do_either z.f_Doer_do_either z.d_Doer_do_either
  B_Doer_do_either : Binds d.K z.d_Doer_do_either ["self", "part"] []
  M_Doer_do_either : Meth d.K d.cDoer "do_either" z.f_Doer_do_either
  F_Doer_do_try : Fun d.K "do_try" "Doer.do_try" s_Doer_do_try z.f_Doer_do_try z.d_Doer_do_try
  B_Doer_do_try : Binds d.K z.d_Doer_do_try ["self", "part"] []
  M_Doer_do_try : Meth d.K d.cDoer "do_try" z.f_Doer_do_try
  F_Doer_do_part : Fun d.K "do_part" "Doer.do_part" s_Doer_do_part z.f_Doer_do_part z.d_Doer_do_part
  B_Doer_do_part : Binds d.K z.d_Doer_do_part ["self", "part"] []
  M_Doer_do_part : Meth d.K d.cDoer "do_part" z.f_Doer_do_part
  F_Doer_do_all : Fun d.K "do_all" "Doer.do_all" s_Doer_do_all z.f_Doer_do_all z.d_Doer_do_all
  B_Doer_do_all : Binds d.K z.d_Doer_do_all ["self", "parts"] []
  M_Doer_do_all : Meth d.K d.cDoer "do_all" z.f_Doer_do_all
  F_alone : Fun d.K "alone" "alone" s_alone z.f_alone z.d_alone
  B_alone : Binds d.K z.d_alone ["deed", "boxes", "slots"] []
  m_alone : mg "alone" = some (.ref z.f_alone)
  F_l_mixed : Fun d.K "_law_mixed" "_law_mixed" s_l_mixed z.f_l_mixed z.d_l_mixed
  B_l_mixed : Binds d.K z.d_l_mixed ["_law_cell"] []
  m_l_mixed : mg "_law_mixed" = some (.ref z.f_l_mixed)
  F_l_wide : Fun d.K "_law_wide" "_law_wide" s_l_wide z.f_l_wide z.d_l_wide
  B_l_wide : Binds d.K z.d_l_wide ["_law_cell"] []
  m_l_wide : mg "_law_wide" = some (.ref z.f_l_wide)
  F_l_names : Fun d.K "_law_names" "_law_names" s_l_names z.f_l_names z.d_l_names
  B_l_names : Binds d.K z.d_l_names ["_law_cell"] []
  m_l_names : mg "_law_names" = some (.ref z.f_l_names)
  F_l_alike : Fun d.K "_law_alike" "_law_alike" s_l_alike z.f_l_alike z.d_l_alike
  B_l_alike : Binds d.K z.d_l_alike ["_law_found", "_law_due"] []
  m_l_alike : mg "_law_alike" = some (.ref z.f_l_alike)
  F_l_plain : Fun d.K "_law_plain" "_law_plain" s_l_plain z.f_l_plain z.d_l_plain
  B_l_plain : Binds d.K z.d_l_plain ["_law_mixed_here", "_law_cell"] []
  m_l_plain : mg "_law_plain" = some (.ref z.f_l_plain)
  F_l_sided : Fun d.K "_law_sided" "_law_sided" s_l_sided z.f_l_sided z.d_l_sided
  B_l_sided : Binds d.K z.d_l_sided ["_law_mixed_here", "_law_one", "_law_other", "_law_names_here"] []
  m_l_sided : mg "_law_sided" = some (.ref z.f_l_sided)
  F_l_tree : Fun d.K "_law_tree" "_law_tree" s_l_tree z.f_l_tree z.d_l_tree
  B_l_tree : Binds d.K z.d_l_tree ["_law_cells", "_law_depth", "_law_names_here"] []
  m_l_tree : mg "_law_tree" = some (.ref z.f_l_tree)
  F_l_made : Fun d.K "_law_made" "_law_made" s_l_made z.f_l_made z.d_l_made
  B_l_made : Binds d.K z.d_l_made ["_law_tree_here"] []
  m_l_made : mg "_law_made" = some (.ref z.f_l_made)
  F_l_boxes : Fun d.K "_law_boxes" "_law_boxes" s_l_boxes z.f_l_boxes z.d_l_boxes
  B_l_boxes : Binds d.K z.d_l_boxes ["_law_cell"] []
  m_l_boxes : mg "_law_boxes" = some (.ref z.f_l_boxes)
  F_l_slots : Fun d.K "_law_slots" "_law_slots" s_l_slots z.f_l_slots z.d_l_slots
  B_l_slots : Binds d.K z.d_l_slots ["_law_cell"] []
  m_l_slots : mg "_law_slots" = some (.ref z.f_l_slots)
  F_l_sum : Fun d.K "_law_sum" "_law_sum" s_l_sum z.f_l_sum z.d_l_sum
  B_l_sum : Binds d.K z.d_l_sum ["_law_word", "_law_one", "_law_other"] []
  m_l_sum : mg "_law_sum" = some (.ref z.f_l_sum)
  F_l_pairs : Fun d.K "_law_pairs" "_law_pairs" s_l_pairs z.f_l_pairs z.d_l_pairs
  B_l_pairs : Binds d.K z.d_l_pairs ["_law_found"] []
  m_l_pairs : mg "_law_pairs" = some (.ref z.f_l_pairs)
  F_l_mark : Fun d.K "_law_mark" "_law_mark" s_l_mark z.f_l_mark z.d_l_mark
  B_l_mark : Binds d.K z.d_l_mark ["_law_marks", "_law_row"] []
  m_l_mark : mg "_law_mark" = some (.ref z.f_l_mark)
  F_l_end : Fun d.K "_law_end" "_law_end" s_l_end z.f_l_end z.d_l_end
  B_l_end : Binds d.K z.d_l_end ["_law_row", "_law_slots_here"] []
  m_l_end : mg "_law_end" = some (.ref z.f_l_end)
  F_l_plain_row : Fun d.K "_law_plain_row" "_law_plain_row" s_l_plain_row z.f_l_plain_row z.d_l_plain_row
  B_l_plain_row : Binds d.K z.d_l_plain_row ["_law_row", "_law_boxes_here", "_law_saw", "_law_slots_here", "_law_written"] []
  m_l_plain_row : mg "_law_plain_row" = some (.ref z.f_l_plain_row)
  F_l_gone : Fun d.K "_law_gone" "_law_gone" s_l_gone z.f_l_gone z.d_l_gone
  B_l_gone : Binds d.K z.d_l_gone ["_law_rows", "_law_boxes_here", "_law_first"] []
  m_l_gone : mg "_law_gone" = some (.ref z.f_l_gone)
  F_law : Fun d.K "law" "law" s_law z.f_law z.d_law
  B_law : Binds d.K z.d_law ["_law_script"] []
  m_law : mg "law" = some (.ref z.f_law)
  b_bool : mg "bool" = none
  b_dict : mg "dict" = none
  b_int : mg "int" = none
  b_isinstance : mg "isinstance" = none
  b_len : mg "len" = none
  b_list : mg "list" = none
  b_max : mg "max" = none
  b_range : mg "range" = none
  b_reversed : mg "reversed" = none
  b_sorted : mg "sorted" = none
  b_str : mg "str" = none
  b_sum : mg "sum" = none
  b_tuple : mg "tuple" = none
  g_LETTERS : mg "LETTERS" = some (.str "abcdefgh" z.k_LETTERS)
  g_WIDE : mg "WIDE" = some (.int 18446744073709551616 z.k_WIDE)
  g_Let : mg "Let" = some (.ref d.cLet)
  g_Reckon : mg "Reckon" = some (.ref d.cReckon)
  g_Take : mg "Take" = some (.ref d.cTake)
  g_Put : mg "Put" = some (.ref d.cPut)
  g_If : mg "If" = some (.ref d.cIf)
  g_Either : mg "Either" = some (.ref d.cEither)
  g_Try : mg "Try" = some (.ref d.cTry)
  g_Throw : mg "Throw" = some (.ref d.cThrow)
  g_Log : mg "Log" = some (.ref d.cLog)
  t_Log : TLog d
  g_Doer : mg "Doer" = some (.ref d.cDoer)
  t_Doer : TDoer d
  g_Wait : mg "Wait" = some (.ref d.cWait)
  MO_Wait : MkO d.K d.cWait
  t_Parts : TParts d
  t_PW : TWait d
section
variable {P : Program} {w : World} {mg : Str → Option Value} {base : Heap} {d : Ad} {z : Fs}
theorem ok_Let_init (T : Txt d mg z) : FnOk P w d.K mg base CX0 1 z.f_Let_init z.d_Let_init ["self", "slot", "number"] (sp_Let_init d) := by
  refine T.F_Let_init.ok sc_Let_init (fun vs H Q E h => by first | (exact lift_len (fun ds W Q h => by first | (obtain ⟨rfl, _⟩ := h; rfl) | (obtain ⟨_, rfl, _⟩ := h; rfl) | (obtain ⟨_, _, rfl, _⟩ := h; rfl) | (obtain ⟨_, _, _, rfl, _⟩ := h; rfl) | (obtain ⟨_, _, _, _, rfl, _⟩ := h; rfl) | (obtain ⟨_, _, _, _, _, rfl, _⟩ := h; rfl) | (obtain ⟨_, _, _, _, _, _, rfl, _⟩ := h; rfl) | (obtain ⟨_, _, _, _, _, _, _, rfl, _⟩ := h; rfl) | (obtain ⟨_, _, _, _, _, _, _, _, rfl, _⟩ := h; rfl) | (obtain ⟨_, _, _, _, _, _, _, _, _, rfl, _⟩ := h; rfl) | (obtain ⟨_, _, _, _, _, _, _, _, _, _, rfl, _⟩ := h; rfl)) h) | (obtain ⟨rfl, _⟩ := h; rfl) | (obtain ⟨_, rfl, _⟩ := h; rfl) | (obtain ⟨_, _, rfl, _⟩ := h; rfl) | (obtain ⟨_, _, _, rfl, _⟩ := h; rfl) | (obtain ⟨_, _, _, _, rfl, _⟩ := h; rfl) | (obtain ⟨_, _, _, _, _, rfl, _⟩ := h; rfl) | (obtain ⟨_, _, _, _, _, _, rfl, _⟩ := h; rfl) | (obtain ⟨_, _, _, _, _, _, _, rfl, _⟩ := h; rfl) | (obtain ⟨_, _, _, _, _, _, _, _, rfl, _⟩ := h; rfl) | (obtain ⟨_, _, _, _, _, _, _, _, _, rfl, _⟩ := h; rfl) | (obtain ⟨_, _, _, _, _, _, _, _, _, _, rfl, _⟩ := h; rfl)) (fun cdv A outer s H vs Q E hr h => ⟨t_Let_init d, ?_, pure_Let_init T.t_Parts h⟩)
  exact (pss_cons (ps_fld (pv 0) (pv 1) rfl)
      (pss_one (ps_fld (pv 0) (pv 2) rfl)))
theorem ok_Reckon_init (T : Txt d mg z) : FnOk P w d.K mg base CX0 1 z.f_Reckon_init z.d_Reckon_init ["self", "word", "slot", "one", "other"] (sp_Reckon_init d) := by
  refine T.F_Reckon_init.ok sc_Reckon_init (fun vs H Q E h => by first | (exact lift_len (fun ds W Q h => by first | (obtain ⟨rfl, _⟩ := h; rfl) | (obtain ⟨_, rfl, _⟩ := h; rfl) | (obtain ⟨_, _, rfl, _⟩ := h; rfl) | (obtain ⟨_, _, _, rfl, _⟩ := h; rfl) | (obtain ⟨_, _, _, _, rfl, _⟩ := h; rfl) | (obtain ⟨_, _, _, _, _, rfl, _⟩ := h; rfl) | (obtain ⟨_, _, _, _, _, _, rfl, _⟩ := h; rfl) | (obtain ⟨_, _, _, _, _, _, _, rfl, _⟩ := h; rfl) | (obtain ⟨_, _, _, _, _, _, _, _, rfl, _⟩ := h; rfl) | (obtain ⟨_, _, _, _, _, _, _, _, _, rfl, _⟩ := h; rfl) | (obtain ⟨_, _, _, _, _, _, _, _, _, _, rfl, _⟩ := h; rfl)) h) | (obtain ⟨rfl, _⟩ := h; rfl) | (obtain ⟨_, rfl, _⟩ := h; rfl) | (obtain ⟨_, _, rfl, _⟩ := h; rfl) | (obtain ⟨_, _, _, rfl, _⟩ := h; rfl) | (obtain ⟨_, _, _, _, rfl, _⟩ := h; rfl) | (obtain ⟨_, _, _, _, _, rfl, _⟩ := h; rfl) | (obtain ⟨_, _, _, _, _, _, rfl, _⟩ := h; rfl) | (obtain ⟨_, _, _, _, _, _, _, rfl, _⟩ := h; rfl) | (obtain ⟨_, _, _, _, _, _, _, _, rfl, _⟩ := h; rfl) | (obtain ⟨_, _, _, _, _, _, _, _, _, rfl, _⟩ := h; rfl) | (obtain ⟨_, _, _, _, _, _, _, _, _, _, rfl, _⟩ := h; rfl)) (fun cdv A outer s H vs Q E hr h => ⟨t_Reckon_init d, ?_, pure_Reckon_init T.t_Parts h⟩)
  exact (pss_cons (ps_fld (pv 0) (pv 1) rfl)
      (pss_cons (ps_fld (pv 0) (pv 2) rfl)
      (pss_cons (ps_fld (pv 0) (pv 3) rfl)
      (pss_one (ps_fld (pv 0) (pv 4) rfl)))))
theorem ok_Take_init (T : Txt d mg z) : FnOk P w d.K mg base CX0 1 z.f_Take_init z.d_Take_init ["self", "slot", "place"] (sp_Take_init d) := by
  refine T.F_Take_init.ok sc_Take_init (fun vs H Q E h => by first | (exact lift_len (fun ds W Q h => by first | (obtain ⟨rfl, _⟩ := h; rfl) | (obtain ⟨_, rfl, _⟩ := h; rfl) | (obtain ⟨_, _, rfl, _⟩ := h; rfl) | (obtain ⟨_, _, _, rfl, _⟩ := h; rfl) | (obtain ⟨_, _, _, _, rfl, _⟩ := h; rfl) | (obtain ⟨_, _, _, _, _, rfl, _⟩ := h; rfl) | (obtain ⟨_, _, _, _, _, _, rfl, _⟩ := h; rfl) | (obtain ⟨_, _, _, _, _, _, _, rfl, _⟩ := h; rfl) | (obtain ⟨_, _, _, _, _, _, _, _, rfl, _⟩ := h; rfl) | (obtain ⟨_, _, _, _, _, _, _, _, _, rfl, _⟩ := h; rfl) | (obtain ⟨_, _, _, _, _, _, _, _, _, _, rfl, _⟩ := h; rfl)) h) | (obtain ⟨rfl, _⟩ := h; rfl) | (obtain ⟨_, rfl, _⟩ := h; rfl) | (obtain ⟨_, _, rfl, _⟩ := h; rfl) | (obtain ⟨_, _, _, rfl, _⟩ := h; rfl) | (obtain ⟨_, _, _, _, rfl, _⟩ := h; rfl) | (obtain ⟨_, _, _, _, _, rfl, _⟩ := h; rfl) | (obtain ⟨_, _, _, _, _, _, rfl, _⟩ := h; rfl) | (obtain ⟨_, _, _, _, _, _, _, rfl, _⟩ := h; rfl) | (obtain ⟨_, _, _, _, _, _, _, _, rfl, _⟩ := h; rfl) | (obtain ⟨_, _, _, _, _, _, _, _, _, rfl, _⟩ := h; rfl) | (obtain ⟨_, _, _, _, _, _, _, _, _, _, rfl, _⟩ := h; rfl)) (fun cdv A outer s H vs Q E hr h => ⟨t_Take_init d, ?_, pure_Take_init T.t_Parts h⟩)
  exact (pss_cons (ps_fld (pv 0) (pv 1) rfl)
      (pss_one (ps_fld (pv 0) (pv 2) rfl)))
theorem ok_Put_init (T : Txt d mg z) : FnOk P w d.K mg base CX0 1 z.f_Put_init z.d_Put_init ["self", "place", "slot"] (sp_Put_init d) := by
  refine T.F_Put_init.ok sc_Put_init (fun vs H Q E h => by first | (exact lift_len (fun ds W Q h => by first | (obtain ⟨rfl, _⟩ := h; rfl) | (obtain ⟨_, rfl, _⟩ := h; rfl) | (obtain ⟨_, _, rfl, _⟩ := h; rfl) | (obtain ⟨_, _, _, rfl, _⟩ := h; rfl) | (obtain ⟨_, _, _, _, rfl, _⟩ := h; rfl) | (obtain ⟨_, _, _, _, _, rfl, _⟩ := h; rfl) | (obtain ⟨_, _, _, _, _, _, rfl, _⟩ := h; rfl) | (obtain ⟨_, _, _, _, _, _, _, rfl, _⟩ := h; rfl) | (obtain ⟨_, _, _, _, _, _, _, _, rfl, _⟩ := h; rfl) | (obtain ⟨_, _, _, _, _, _, _, _, _, rfl, _⟩ := h; rfl) | (obtain ⟨_, _, _, _, _, _, _, _, _, _, rfl, _⟩ := h; rfl)) h) | (obtain ⟨rfl, _⟩ := h; rfl) | (obtain ⟨_, rfl, _⟩ := h; rfl) | (obtain ⟨_, _, rfl, _⟩ := h; rfl) | (obtain ⟨_, _, _, rfl, _⟩ := h; rfl) | (obtain ⟨_, _, _, _, rfl, _⟩ := h; rfl) | (obtain ⟨_, _, _, _, _, rfl, _⟩ := h; rfl) | (obtain ⟨_, _, _, _, _, _, rfl, _⟩ := h; rfl) | (obtain ⟨_, _, _, _, _, _, _, rfl, _⟩ := h; rfl) | (obtain ⟨_, _, _, _, _, _, _, _, rfl, _⟩ := h; rfl) | (obtain ⟨_, _, _, _, _, _, _, _, _, rfl, _⟩ := h; rfl) | (obtain ⟨_, _, _, _, _, _, _, _, _, _, rfl, _⟩ := h; rfl)) (fun cdv A outer s H vs Q E hr h => ⟨t_Put_init d, ?_, pure_Put_init T.t_Parts h⟩)
  exact (pss_cons (ps_fld (pv 0) (pv 1) rfl)
      (pss_one (ps_fld (pv 0) (pv 2) rfl)))
theorem ok_If_init (T : Txt d mg z) : FnOk P w d.K mg base CX0 1 z.f_If_init z.d_If_init ["self", "slot", "parts", "others"] (sp_If_init d) := by
  refine T.F_If_init.ok sc_If_init (fun vs H Q E h => by first | (exact lift_len (fun ds W Q h => by first | (obtain ⟨rfl, _⟩ := h; rfl) | (obtain ⟨_, rfl, _⟩ := h; rfl) | (obtain ⟨_, _, rfl, _⟩ := h; rfl) | (obtain ⟨_, _, _, rfl, _⟩ := h; rfl) | (obtain ⟨_, _, _, _, rfl, _⟩ := h; rfl) | (obtain ⟨_, _, _, _, _, rfl, _⟩ := h; rfl) | (obtain ⟨_, _, _, _, _, _, rfl, _⟩ := h; rfl) | (obtain ⟨_, _, _, _, _, _, _, rfl, _⟩ := h; rfl) | (obtain ⟨_, _, _, _, _, _, _, _, rfl, _⟩ := h; rfl) | (obtain ⟨_, _, _, _, _, _, _, _, _, rfl, _⟩ := h; rfl) | (obtain ⟨_, _, _, _, _, _, _, _, _, _, rfl, _⟩ := h; rfl)) h) | (obtain ⟨rfl, _⟩ := h; rfl) | (obtain ⟨_, rfl, _⟩ := h; rfl) | (obtain ⟨_, _, rfl, _⟩ := h; rfl) | (obtain ⟨_, _, _, rfl, _⟩ := h; rfl) | (obtain ⟨_, _, _, _, rfl, _⟩ := h; rfl) | (obtain ⟨_, _, _, _, _, rfl, _⟩ := h; rfl) | (obtain ⟨_, _, _, _, _, _, rfl, _⟩ := h; rfl) | (obtain ⟨_, _, _, _, _, _, _, rfl, _⟩ := h; rfl) | (obtain ⟨_, _, _, _, _, _, _, _, rfl, _⟩ := h; rfl) | (obtain ⟨_, _, _, _, _, _, _, _, _, rfl, _⟩ := h; rfl) | (obtain ⟨_, _, _, _, _, _, _, _, _, _, rfl, _⟩ := h; rfl)) (fun cdv A outer s H vs Q E hr h => ⟨t_If_init d, ?_, pure_If_init T.t_Parts h⟩)
  exact (pss_cons (ps_fld (pv 0) (pv 1) rfl)
      (pss_cons (ps_fld (pv 0) (pe_callTy call_list_of (by rfl) T.b_list (by decide +kernel) (pa_cons (pv 2) pa_nil)) rfl)
      (pss_one (ps_fld (pv 0) (pe_callTy call_list_of (by rfl) T.b_list (by decide +kernel) (pa_cons (pv 3) pa_nil)) rfl))))
theorem ok_Either_init (T : Txt d mg z) : FnOk P w d.K mg base CX0 1 z.f_Either_init z.d_Either_init ["self", "parts", "others"] (sp_Either_init d) := by
  refine T.F_Either_init.ok sc_Either_init (fun vs H Q E h => by first | (exact lift_len (fun ds W Q h => by first | (obtain ⟨rfl, _⟩ := h; rfl) | (obtain ⟨_, rfl, _⟩ := h; rfl) | (obtain ⟨_, _, rfl, _⟩ := h; rfl) | (obtain ⟨_, _, _, rfl, _⟩ := h; rfl) | (obtain ⟨_, _, _, _, rfl, _⟩ := h; rfl) | (obtain ⟨_, _, _, _, _, rfl, _⟩ := h; rfl) | (obtain ⟨_, _, _, _, _, _, rfl, _⟩ := h; rfl) | (obtain ⟨_, _, _, _, _, _, _, rfl, _⟩ := h; rfl) | (obtain ⟨_, _, _, _, _, _, _, _, rfl, _⟩ := h; rfl) | (obtain ⟨_, _, _, _, _, _, _, _, _, rfl, _⟩ := h; rfl) | (obtain ⟨_, _, _, _, _, _, _, _, _, _, rfl, _⟩ := h; rfl)) h) | (obtain ⟨rfl, _⟩ := h; rfl) | (obtain ⟨_, rfl, _⟩ := h; rfl) | (obtain ⟨_, _, rfl, _⟩ := h; rfl) | (obtain ⟨_, _, _, rfl, _⟩ := h; rfl) | (obtain ⟨_, _, _, _, rfl, _⟩ := h; rfl) | (obtain ⟨_, _, _, _, _, rfl, _⟩ := h; rfl) | (obtain ⟨_, _, _, _, _, _, rfl, _⟩ := h; rfl) | (obtain ⟨_, _, _, _, _, _, _, rfl, _⟩ := h; rfl) | (obtain ⟨_, _, _, _, _, _, _, _, rfl, _⟩ := h; rfl) | (obtain ⟨_, _, _, _, _, _, _, _, _, rfl, _⟩ := h; rfl) | (obtain ⟨_, _, _, _, _, _, _, _, _, _, rfl, _⟩ := h; rfl)) (fun cdv A outer s H vs Q E hr h => ⟨t_Either_init d, ?_, pure_Either_init T.t_Parts h⟩)
  exact (pss_cons (ps_fld (pv 0) (pe_callTy call_list_of (by rfl) T.b_list (by decide +kernel) (pa_cons (pv 1) pa_nil)) rfl)
      (pss_one (ps_fld (pv 0) (pe_callTy call_list_of (by rfl) T.b_list (by decide +kernel) (pa_cons (pv 2) pa_nil)) rfl)))
theorem ok_Try_init (T : Txt d mg z) : FnOk P w d.K mg base CX0 1 z.f_Try_init z.d_Try_init ["self", "parts", "name", "slot", "others"] (sp_Try_init d) := by
  refine T.F_Try_init.ok sc_Try_init (fun vs H Q E h => by first | (exact lift_len (fun ds W Q h => by first | (obtain ⟨rfl, _⟩ := h; rfl) | (obtain ⟨_, rfl, _⟩ := h; rfl) | (obtain ⟨_, _, rfl, _⟩ := h; rfl) | (obtain ⟨_, _, _, rfl, _⟩ := h; rfl) | (obtain ⟨_, _, _, _, rfl, _⟩ := h; rfl) | (obtain ⟨_, _, _, _, _, rfl, _⟩ := h; rfl) | (obtain ⟨_, _, _, _, _, _, rfl, _⟩ := h; rfl) | (obtain ⟨_, _, _, _, _, _, _, rfl, _⟩ := h; rfl) | (obtain ⟨_, _, _, _, _, _, _, _, rfl, _⟩ := h; rfl) | (obtain ⟨_, _, _, _, _, _, _, _, _, rfl, _⟩ := h; rfl) | (obtain ⟨_, _, _, _, _, _, _, _, _, _, rfl, _⟩ := h; rfl)) h) | (obtain ⟨rfl, _⟩ := h; rfl) | (obtain ⟨_, rfl, _⟩ := h; rfl) | (obtain ⟨_, _, rfl, _⟩ := h; rfl) | (obtain ⟨_, _, _, rfl, _⟩ := h; rfl) | (obtain ⟨_, _, _, _, rfl, _⟩ := h; rfl) | (obtain ⟨_, _, _, _, _, rfl, _⟩ := h; rfl) | (obtain ⟨_, _, _, _, _, _, rfl, _⟩ := h; rfl) | (obtain ⟨_, _, _, _, _, _, _, rfl, _⟩ := h; rfl) | (obtain ⟨_, _, _, _, _, _, _, _, rfl, _⟩ := h; rfl) | (obtain ⟨_, _, _, _, _, _, _, _, _, rfl, _⟩ := h; rfl) | (obtain ⟨_, _, _, _, _, _, _, _, _, _, rfl, _⟩ := h; rfl)) (fun cdv A outer s H vs Q E hr h => ⟨t_Try_init d, ?_, pure_Try_init T.t_Parts h⟩)
  exact (pss_cons (ps_fld (pv 0) (pe_callTy call_list_of (by rfl) T.b_list (by decide +kernel) (pa_cons (pv 1) pa_nil)) rfl)
      (pss_cons (ps_fld (pv 0) (pv 2) rfl)
      (pss_cons (ps_fld (pv 0) (pv 3) rfl)
      (pss_one (ps_fld (pv 0) (pe_callTy call_list_of (by rfl) T.b_list (by decide +kernel) (pa_cons (pv 4) pa_nil)) rfl)))))
theorem ok_Throw_init (T : Txt d mg z) : FnOk P w d.K mg base CX0 1 z.f_Throw_init z.d_Throw_init ["self", "name", "slot"] (sp_Throw_init d) := by
  refine T.F_Throw_init.ok sc_Throw_init (fun vs H Q E h => by first | (exact lift_len (fun ds W Q h => by first | (obtain ⟨rfl, _⟩ := h; rfl) | (obtain ⟨_, rfl, _⟩ := h; rfl) | (obtain ⟨_, _, rfl, _⟩ := h; rfl) | (obtain ⟨_, _, _, rfl, _⟩ := h; rfl) | (obtain ⟨_, _, _, _, rfl, _⟩ := h; rfl) | (obtain ⟨_, _, _, _, _, rfl, _⟩ := h; rfl) | (obtain ⟨_, _, _, _, _, _, rfl, _⟩ := h; rfl) | (obtain ⟨_, _, _, _, _, _, _, rfl, _⟩ := h; rfl) | (obtain ⟨_, _, _, _, _, _, _, _, rfl, _⟩ := h; rfl) | (obtain ⟨_, _, _, _, _, _, _, _, _, rfl, _⟩ := h; rfl) | (obtain ⟨_, _, _, _, _, _, _, _, _, _, rfl, _⟩ := h; rfl)) h) | (obtain ⟨rfl, _⟩ := h; rfl) | (obtain ⟨_, rfl, _⟩ := h; rfl) | (obtain ⟨_, _, rfl, _⟩ := h; rfl) | (obtain ⟨_, _, _, rfl, _⟩ := h; rfl) | (obtain ⟨_, _, _, _, rfl, _⟩ := h; rfl) | (obtain ⟨_, _, _, _, _, rfl, _⟩ := h; rfl) | (obtain ⟨_, _, _, _, _, _, rfl, _⟩ := h; rfl) | (obtain ⟨_, _, _, _, _, _, _, rfl, _⟩ := h; rfl) | (obtain ⟨_, _, _, _, _, _, _, _, rfl, _⟩ := h; rfl) | (obtain ⟨_, _, _, _, _, _, _, _, _, rfl, _⟩ := h; rfl) | (obtain ⟨_, _, _, _, _, _, _, _, _, _, rfl, _⟩ := h; rfl)) (fun cdv A outer s H vs Q E hr h => ⟨t_Throw_init d, ?_, pure_Throw_init T.t_Parts h⟩)
  exact (pss_cons (ps_fld (pv 0) (pv 1) rfl)
      (pss_one (ps_fld (pv 0) (pv 2) rfl)))
theorem ok_plain_row (T : Txt d mg z) : FnOk P w d.K mg base CX0 1 z.f_plain_row z.d_plain_row ["part"] (sp_plain_row d) := by
  refine T.F_plain_row.ok sc_plain_row (fun vs H Q E h => by first | (exact lift_len (fun ds W Q h => by first | (obtain ⟨rfl, _⟩ := h; rfl) | (obtain ⟨_, rfl, _⟩ := h; rfl) | (obtain ⟨_, _, rfl, _⟩ := h; rfl) | (obtain ⟨_, _, _, rfl, _⟩ := h; rfl) | (obtain ⟨_, _, _, _, rfl, _⟩ := h; rfl) | (obtain ⟨_, _, _, _, _, rfl, _⟩ := h; rfl) | (obtain ⟨_, _, _, _, _, _, rfl, _⟩ := h; rfl) | (obtain ⟨_, _, _, _, _, _, _, rfl, _⟩ := h; rfl) | (obtain ⟨_, _, _, _, _, _, _, _, rfl, _⟩ := h; rfl) | (obtain ⟨_, _, _, _, _, _, _, _, _, rfl, _⟩ := h; rfl) | (obtain ⟨_, _, _, _, _, _, _, _, _, _, rfl, _⟩ := h; rfl)) h) | (obtain ⟨rfl, _⟩ := h; rfl) | (obtain ⟨_, rfl, _⟩ := h; rfl) | (obtain ⟨_, _, rfl, _⟩ := h; rfl) | (obtain ⟨_, _, _, rfl, _⟩ := h; rfl) | (obtain ⟨_, _, _, _, rfl, _⟩ := h; rfl) | (obtain ⟨_, _, _, _, _, rfl, _⟩ := h; rfl) | (obtain ⟨_, _, _, _, _, _, rfl, _⟩ := h; rfl) | (obtain ⟨_, _, _, _, _, _, _, rfl, _⟩ := h; rfl) | (obtain ⟨_, _, _, _, _, _, _, _, rfl, _⟩ := h; rfl) | (obtain ⟨_, _, _, _, _, _, _, _, _, rfl, _⟩ := h; rfl) | (obtain ⟨_, _, _, _, _, _, _, _, _, _, rfl, _⟩ := h; rfl)) (fun cdv A outer s H vs Q E hr h => ⟨t_plain_row d, ?_, pure_plain_row T.t_Parts h⟩)
  exact (pss_cons (ps_if (pt_val (pe_callB call_isi (by rfl) T.b_isinstance (by decide +kernel) (pa_cons (pv 0) (pa_cons (pe_glob rfl T.g_Let rfl) pa_nil)))) (pss_one (ps_ret (pe_tup (pa_cons pe_str (pa_cons (pe_fld (pv 0) rfl) (pa_cons (pe_fld (pv 0) rfl) pa_nil)))))) pss_nil)
      (pss_cons (ps_if (pt_val (pe_callB call_isi (by rfl) T.b_isinstance (by decide +kernel) (pa_cons (pv 0) (pa_cons (pe_glob rfl T.g_Reckon rfl) pa_nil)))) (pss_one (ps_ret (pe_tup (pa_cons (pe_fld (pv 0) rfl) (pa_cons (pe_fld (pv 0) rfl) (pa_cons (pe_fld (pv 0) rfl) (pa_cons (pe_fld (pv 0) rfl) pa_nil))))))) pss_nil)
      (pss_cons (ps_if (pt_val (pe_callB call_isi (by rfl) T.b_isinstance (by decide +kernel) (pa_cons (pv 0) (pa_cons (pe_glob rfl T.g_Take rfl) pa_nil)))) (pss_one (ps_ret (pe_tup (pa_cons pe_str (pa_cons (pe_fld (pv 0) rfl) (pa_cons (pe_fld (pv 0) rfl) pa_nil)))))) pss_nil)
      (pss_cons (ps_if (pt_val (pe_callB call_isi (by rfl) T.b_isinstance (by decide +kernel) (pa_cons (pv 0) (pa_cons (pe_glob rfl T.g_Put rfl) pa_nil)))) (pss_one (ps_ret (pe_tup (pa_cons pe_str (pa_cons (pe_fld (pv 0) rfl) (pa_cons (pe_fld (pv 0) rfl) pa_nil)))))) pss_nil)
      (pss_cons (ps_if (pt_val (pe_callB call_isi (by rfl) T.b_isinstance (by decide +kernel) (pa_cons (pv 0) (pa_cons (pe_glob rfl T.g_Throw rfl) pa_nil)))) (pss_one (ps_ret (pe_tup (pa_cons pe_str (pa_cons (pe_fld (pv 0) rfl) (pa_cons (pe_fld (pv 0) rfl) pa_nil)))))) pss_nil)
      (pss_one (ps_ret (pe_tup (pa_cons pe_str pa_nil)))))))))
theorem okG_two_sides (T : Txt d mg z) : (n : Nat) → FnOk P w d.K mg base CX0 (n + 1) z.f_two_sides z.d_two_sides ["head", "part", "first", "closing"] (spN_two_sides n d) ∧ FnOk P w d.K mg base CX0 (n + 1) z.f_part_rows z.d_part_rows ["part", "first"] (spN_part_rows n d) ∧ FnOk P w d.K mg base CX0 (n + 1) z.f_rows_from z.d_rows_from ["parts", "first"] (spN_rows_from n d)
  | 0 => ⟨fnok_no fun vs H Q E h => no_two_sides h, fnok_no fun vs H Q E h => no_part_rows h, fnok_no fun vs H Q E h => no_rows_from h⟩
  | n + 1 => by
    have G_plain_row := ok_plain_row (P := P) (w := w) (base := base) T
    have GG := okG_two_sides T n
    obtain ⟨GN_two_sides, GN_part_rows, GN_rows_from⟩ := GG
    refine ⟨?g0, ?g1, ?g2⟩
    case g0 =>
      refine FnOk.mono (j := n + 1 + 1) ?_ (by omega)
      refine T.F_two_sides.ok sc_two_sides (fun vs H Q E h => by first | (exact lift_len (fun ds W Q h => by first | (obtain ⟨rfl, _⟩ := h; rfl) | (obtain ⟨_, rfl, _⟩ := h; rfl) | (obtain ⟨_, _, rfl, _⟩ := h; rfl) | (obtain ⟨_, _, _, rfl, _⟩ := h; rfl) | (obtain ⟨_, _, _, _, rfl, _⟩ := h; rfl) | (obtain ⟨_, _, _, _, _, rfl, _⟩ := h; rfl) | (obtain ⟨_, _, _, _, _, _, rfl, _⟩ := h; rfl) | (obtain ⟨_, _, _, _, _, _, _, rfl, _⟩ := h; rfl) | (obtain ⟨_, _, _, _, _, _, _, _, rfl, _⟩ := h; rfl) | (obtain ⟨_, _, _, _, _, _, _, _, _, rfl, _⟩ := h; rfl) | (obtain ⟨_, _, _, _, _, _, _, _, _, _, rfl, _⟩ := h; rfl)) h) | (obtain ⟨rfl, _⟩ := h; rfl) | (obtain ⟨_, rfl, _⟩ := h; rfl) | (obtain ⟨_, _, rfl, _⟩ := h; rfl) | (obtain ⟨_, _, _, rfl, _⟩ := h; rfl) | (obtain ⟨_, _, _, _, rfl, _⟩ := h; rfl) | (obtain ⟨_, _, _, _, _, rfl, _⟩ := h; rfl) | (obtain ⟨_, _, _, _, _, _, rfl, _⟩ := h; rfl) | (obtain ⟨_, _, _, _, _, _, _, rfl, _⟩ := h; rfl) | (obtain ⟨_, _, _, _, _, _, _, _, rfl, _⟩ := h; rfl) | (obtain ⟨_, _, _, _, _, _, _, _, _, rfl, _⟩ := h; rfl) | (obtain ⟨_, _, _, _, _, _, _, _, _, _, rfl, _⟩ := h; rfl)) (fun cdv A outer s H vs Q E hr h => ⟨t_two_sides n d, ?_, pure_two_sides  h⟩)
      exact (pss_cons (ps_set (i := 4) sc_two_sides.nd rfl (Or.inl rfl) (pe_op op_catQ (pe_call GN_rows_from (hr.mono (by omega)) rfl T.m_rows_from T.F_rows_from.kp T.B_rows_from .nil pass0 (pa_cons (pe_fld (pv 1) rfl) (pa_cons (pe_op op_add (pv 2) pe_int) pa_nil))) (pv 3)))
        (pss_cons (ps_set (i := 5) sc_two_sides.nd rfl (Or.inl rfl) (pe_op op_add (pe_op op_add (pv 2) (pe_callB call_len_seq (by rfl) T.b_len (by decide +kernel) (pa_cons (pv 4) pa_nil))) pe_int))
        (pss_cons (ps_set (i := 6) sc_two_sides.nd rfl (Or.inl rfl) (pe_call GN_rows_from (hr.mono (by omega)) rfl T.m_rows_from T.F_rows_from.kp T.B_rows_from .nil pass0 (pa_cons (pe_fld (pv 1) rfl) (pa_cons (pv 5) pa_nil))))
        (pss_one (ps_ret (pe_op op_catQ (pe_op op_catQ (pe_op op_catQ (pe_lst (pa_cons (pe_op op_catT (pv 0) (pe_tup (pa_cons (pv 5) pa_nil))) pa_nil)) (pv 4)) (pe_lst (pa_cons (pe_tup (pa_cons pe_str (pa_cons (pe_op op_add (pv 5) (pe_callB call_len_seq (by rfl) T.b_len (by decide +kernel) (pa_cons (pv 6) pa_nil))) pa_nil))) pa_nil))) (pv 6)))))))
    case g1 =>
      refine FnOk.mono (j := n + 1 + 1) ?_ (by omega)
      refine T.F_part_rows.ok sc_part_rows (fun vs H Q E h => by first | (exact lift_len (fun ds W Q h => by first | (obtain ⟨rfl, _⟩ := h; rfl) | (obtain ⟨_, rfl, _⟩ := h; rfl) | (obtain ⟨_, _, rfl, _⟩ := h; rfl) | (obtain ⟨_, _, _, rfl, _⟩ := h; rfl) | (obtain ⟨_, _, _, _, rfl, _⟩ := h; rfl) | (obtain ⟨_, _, _, _, _, rfl, _⟩ := h; rfl) | (obtain ⟨_, _, _, _, _, _, rfl, _⟩ := h; rfl) | (obtain ⟨_, _, _, _, _, _, _, rfl, _⟩ := h; rfl) | (obtain ⟨_, _, _, _, _, _, _, _, rfl, _⟩ := h; rfl) | (obtain ⟨_, _, _, _, _, _, _, _, _, rfl, _⟩ := h; rfl) | (obtain ⟨_, _, _, _, _, _, _, _, _, _, rfl, _⟩ := h; rfl)) h) | (obtain ⟨rfl, _⟩ := h; rfl) | (obtain ⟨_, rfl, _⟩ := h; rfl) | (obtain ⟨_, _, rfl, _⟩ := h; rfl) | (obtain ⟨_, _, _, rfl, _⟩ := h; rfl) | (obtain ⟨_, _, _, _, rfl, _⟩ := h; rfl) | (obtain ⟨_, _, _, _, _, rfl, _⟩ := h; rfl) | (obtain ⟨_, _, _, _, _, _, rfl, _⟩ := h; rfl) | (obtain ⟨_, _, _, _, _, _, _, rfl, _⟩ := h; rfl) | (obtain ⟨_, _, _, _, _, _, _, _, rfl, _⟩ := h; rfl) | (obtain ⟨_, _, _, _, _, _, _, _, _, rfl, _⟩ := h; rfl) | (obtain ⟨_, _, _, _, _, _, _, _, _, _, rfl, _⟩ := h; rfl)) (fun cdv A outer s H vs Q E hr h => ⟨t_part_rows n d, ?_, pure_part_rows T.t_Parts h⟩)
      exact (pss_cons (ps_if (pt_val (pe_callB call_isi (by rfl) T.b_isinstance (by decide +kernel) (pa_cons (pv 0) (pa_cons (pe_glob rfl T.g_If rfl) pa_nil)))) (pss_one (ps_ret (pe_call GN_two_sides (hr.mono (by omega)) rfl T.m_two_sides T.F_two_sides.kp T.B_two_sides .nil pass0 (pa_cons (pe_tup (pa_cons pe_str (pa_cons (pe_fld (pv 0) rfl) pa_nil))) (pa_cons (pv 0) (pa_cons (pv 1) (pa_cons (pe_lst pa_nil) pa_nil))))))) pss_nil)
        (pss_cons (ps_if (pt_val (pe_callB call_isi (by rfl) T.b_isinstance (by decide +kernel) (pa_cons (pv 0) (pa_cons (pe_glob rfl T.g_Either rfl) pa_nil)))) (pss_one (ps_ret (pe_call GN_two_sides (hr.mono (by omega)) rfl T.m_two_sides T.F_two_sides.kp T.B_two_sides .nil pass0 (pa_cons (pe_tup (pa_cons pe_str pa_nil)) (pa_cons (pv 0) (pa_cons (pv 1) (pa_cons (pe_lst (pa_cons (pe_tup (pa_cons pe_str pa_nil)) pa_nil)) pa_nil))))))) pss_nil)
        (pss_cons (ps_if (pt_val (pe_callB call_isi (by rfl) T.b_isinstance (by decide +kernel) (pa_cons (pv 0) (pa_cons (pe_glob rfl T.g_Try rfl) pa_nil)))) (pss_one (ps_ret (pe_call GN_two_sides (hr.mono (by omega)) rfl T.m_two_sides T.F_two_sides.kp T.B_two_sides .nil pass0 (pa_cons (pe_tup (pa_cons pe_str (pa_cons (pe_fld (pv 0) rfl) (pa_cons (pe_fld (pv 0) rfl) pa_nil)))) (pa_cons (pv 0) (pa_cons (pv 1) (pa_cons (pe_lst (pa_cons (pe_tup (pa_cons pe_str pa_nil)) pa_nil)) pa_nil))))))) pss_nil)
        (pss_one (ps_ret (pe_lst (pa_cons (pe_call G_plain_row (hr.mono (by omega)) rfl T.m_plain_row T.F_plain_row.kp T.B_plain_row .nil pass0 (pa_cons (pv 0) pa_nil)) pa_nil)))))))
    case g2 =>
      refine FnOk.mono (j := n + 1 + 1) ?_ (by omega)
      refine T.F_rows_from.ok sc_rows_from (fun vs H Q E h => by first | (exact lift_len (fun ds W Q h => by first | (obtain ⟨rfl, _⟩ := h; rfl) | (obtain ⟨_, rfl, _⟩ := h; rfl) | (obtain ⟨_, _, rfl, _⟩ := h; rfl) | (obtain ⟨_, _, _, rfl, _⟩ := h; rfl) | (obtain ⟨_, _, _, _, rfl, _⟩ := h; rfl) | (obtain ⟨_, _, _, _, _, rfl, _⟩ := h; rfl) | (obtain ⟨_, _, _, _, _, _, rfl, _⟩ := h; rfl) | (obtain ⟨_, _, _, _, _, _, _, rfl, _⟩ := h; rfl) | (obtain ⟨_, _, _, _, _, _, _, _, rfl, _⟩ := h; rfl) | (obtain ⟨_, _, _, _, _, _, _, _, _, rfl, _⟩ := h; rfl) | (obtain ⟨_, _, _, _, _, _, _, _, _, _, rfl, _⟩ := h; rfl)) h) | (obtain ⟨rfl, _⟩ := h; rfl) | (obtain ⟨_, rfl, _⟩ := h; rfl) | (obtain ⟨_, _, rfl, _⟩ := h; rfl) | (obtain ⟨_, _, _, rfl, _⟩ := h; rfl) | (obtain ⟨_, _, _, _, rfl, _⟩ := h; rfl) | (obtain ⟨_, _, _, _, _, rfl, _⟩ := h; rfl) | (obtain ⟨_, _, _, _, _, _, rfl, _⟩ := h; rfl) | (obtain ⟨_, _, _, _, _, _, _, rfl, _⟩ := h; rfl) | (obtain ⟨_, _, _, _, _, _, _, _, rfl, _⟩ := h; rfl) | (obtain ⟨_, _, _, _, _, _, _, _, _, rfl, _⟩ := h; rfl) | (obtain ⟨_, _, _, _, _, _, _, _, _, _, rfl, _⟩ := h; rfl)) (fun cdv A outer s H vs Q E hr h => ⟨t_rows_from n d, ?_, pure_rows_from  h⟩)
      exact (pss_cons (ps_set (i := 2) sc_rows_from.nd rfl (Or.inl rfl) (pe_lst pa_nil))
        (pss_cons (ps_for PassesOwn.never rfl (pi_list (pv 0)) (pg_name (i := 3) sc_rows_from.nd rfl (Or.inl rfl)) (pss_one (ps_expr (pe_bm PySem.F.plainAttrs_list PySem.F.slot_list_extend PySem.F.type_list_extend mt_extend (pv 2) (pa_cons (pe_call GN_part_rows (hr.mono (by omega)) rfl T.m_part_rows T.F_part_rows.kp T.B_part_rows .nil pass0 (pa_cons (pv 3) (pa_cons (pe_op op_add (pv 1) (pe_callB call_len_seq (by rfl) T.b_len (by decide +kernel) (pa_cons (pv 2) pa_nil))) pa_nil))) pa_nil)))))
        (pss_one (ps_ret (pv 2)))))
theorem ok_rows_from (T : Txt d mg z) : FnOk P w d.K mg base CX0 (41) z.f_rows_from z.d_rows_from ["parts", "first"] (sp_rows_from d) := (okG_two_sides T 40).2.2
theorem ok_rows_of (T : Txt d mg z) : FnOk P w d.K mg base CX0 42 z.f_rows_of z.d_rows_of ["deed"] (sp_rows_of d) := by
  have G_rows_from := ok_rows_from (P := P) (w := w) (base := base) T
  refine T.F_rows_of.ok sc_rows_of (fun vs H Q E h => by first | (exact lift_len (fun ds W Q h => by first | (obtain ⟨rfl, _⟩ := h; rfl) | (obtain ⟨_, rfl, _⟩ := h; rfl) | (obtain ⟨_, _, rfl, _⟩ := h; rfl) | (obtain ⟨_, _, _, rfl, _⟩ := h; rfl) | (obtain ⟨_, _, _, _, rfl, _⟩ := h; rfl) | (obtain ⟨_, _, _, _, _, rfl, _⟩ := h; rfl) | (obtain ⟨_, _, _, _, _, _, rfl, _⟩ := h; rfl) | (obtain ⟨_, _, _, _, _, _, _, rfl, _⟩ := h; rfl) | (obtain ⟨_, _, _, _, _, _, _, _, rfl, _⟩ := h; rfl) | (obtain ⟨_, _, _, _, _, _, _, _, _, rfl, _⟩ := h; rfl) | (obtain ⟨_, _, _, _, _, _, _, _, _, _, rfl, _⟩ := h; rfl)) h) | (obtain ⟨rfl, _⟩ := h; rfl) | (obtain ⟨_, rfl, _⟩ := h; rfl) | (obtain ⟨_, _, rfl, _⟩ := h; rfl) | (obtain ⟨_, _, _, rfl, _⟩ := h; rfl) | (obtain ⟨_, _, _, _, rfl, _⟩ := h; rfl) | (obtain ⟨_, _, _, _, _, rfl, _⟩ := h; rfl) | (obtain ⟨_, _, _, _, _, _, rfl, _⟩ := h; rfl) | (obtain ⟨_, _, _, _, _, _, _, rfl, _⟩ := h; rfl) | (obtain ⟨_, _, _, _, _, _, _, _, rfl, _⟩ := h; rfl) | (obtain ⟨_, _, _, _, _, _, _, _, _, rfl, _⟩ := h; rfl) | (obtain ⟨_, _, _, _, _, _, _, _, _, _, rfl, _⟩ := h; rfl)) (fun cdv A outer s H vs Q E hr h => ⟨t_rows_of d, ?_, pure_rows_of  h⟩)
  exact (pss_one (ps_ret (pe_op op_catQ (pe_call G_rows_from (hr.mono (by omega)) rfl T.m_rows_from T.F_rows_from.kp T.B_rows_from .nil pass0 (pa_cons (pv 0) (pa_cons pe_int pa_nil))) (pe_lst (pa_cons (pe_tup (pa_cons pe_str pa_nil)) pa_nil)))))
theorem ok_by_boxes (T : Txt d mg z) : FnOk P w d.K mg base CX0 1 z.f_by_boxes z.d_by_boxes ["found"] (sp_by_boxes d) := by
  refine T.F_by_boxes.ok sc_by_boxes (fun vs H Q E h => by first | (exact lift_len (fun ds W Q h => by first | (obtain ⟨rfl, _⟩ := h; rfl) | (obtain ⟨_, rfl, _⟩ := h; rfl) | (obtain ⟨_, _, rfl, _⟩ := h; rfl) | (obtain ⟨_, _, _, rfl, _⟩ := h; rfl) | (obtain ⟨_, _, _, _, rfl, _⟩ := h; rfl) | (obtain ⟨_, _, _, _, _, rfl, _⟩ := h; rfl) | (obtain ⟨_, _, _, _, _, _, rfl, _⟩ := h; rfl) | (obtain ⟨_, _, _, _, _, _, _, rfl, _⟩ := h; rfl) | (obtain ⟨_, _, _, _, _, _, _, _, rfl, _⟩ := h; rfl) | (obtain ⟨_, _, _, _, _, _, _, _, _, rfl, _⟩ := h; rfl) | (obtain ⟨_, _, _, _, _, _, _, _, _, _, rfl, _⟩ := h; rfl)) h) | (obtain ⟨rfl, _⟩ := h; rfl) | (obtain ⟨_, rfl, _⟩ := h; rfl) | (obtain ⟨_, _, rfl, _⟩ := h; rfl) | (obtain ⟨_, _, _, rfl, _⟩ := h; rfl) | (obtain ⟨_, _, _, _, rfl, _⟩ := h; rfl) | (obtain ⟨_, _, _, _, _, rfl, _⟩ := h; rfl) | (obtain ⟨_, _, _, _, _, _, rfl, _⟩ := h; rfl) | (obtain ⟨_, _, _, _, _, _, _, rfl, _⟩ := h; rfl) | (obtain ⟨_, _, _, _, _, _, _, _, rfl, _⟩ := h; rfl) | (obtain ⟨_, _, _, _, _, _, _, _, _, rfl, _⟩ := h; rfl) | (obtain ⟨_, _, _, _, _, _, _, _, _, _, rfl, _⟩ := h; rfl)) (fun cdv A outer s H vs Q E hr h => ⟨t_by_boxes d, ?_, pure_by_boxes  h⟩)
  have hu := hu_of hr
  exact (pss_one (ps_ret (pe_lc (own := [("box", 1)]) rfl sc_by_boxes.nd (pi_list (pe_callB (call_sortedDI rfl) (by rfl) T.b_sorted (by decide +kernel) (pa_cons (pv 0) pa_nil))) (blkOk_by (own := [("box", 1)]) (N := N_by_boxes) (sc := defScope s_by_boxes) (by decide +kernel)) (fun _ _ _ _ _ => (pg_name (i := 1) sc_by_boxes.nd rfl (Or.inl rfl))) (fun _ _ _ _ _ => pts_nil) (fun _ _ _ _ _ => (pe_tup (pa_cons (pv 1) (pa_cons (pe_dget hu (pv 0) (pv 1) (fun _ _ => rfl)) pa_nil)))))))
theorem ok_Log_init (T : Txt d mg z) : FnOk P w d.K mg base CX0 1 z.f_Log_init z.d_Log_init ["self"] (sp_Log_init d) := by
  refine T.F_Log_init.ok sc_Log_init (fun vs H Q E h => by first | (exact lift_len (fun ds W Q h => by first | (obtain ⟨rfl, _⟩ := h; rfl) | (obtain ⟨_, rfl, _⟩ := h; rfl) | (obtain ⟨_, _, rfl, _⟩ := h; rfl) | (obtain ⟨_, _, _, rfl, _⟩ := h; rfl) | (obtain ⟨_, _, _, _, rfl, _⟩ := h; rfl) | (obtain ⟨_, _, _, _, _, rfl, _⟩ := h; rfl) | (obtain ⟨_, _, _, _, _, _, rfl, _⟩ := h; rfl) | (obtain ⟨_, _, _, _, _, _, _, rfl, _⟩ := h; rfl) | (obtain ⟨_, _, _, _, _, _, _, _, rfl, _⟩ := h; rfl) | (obtain ⟨_, _, _, _, _, _, _, _, _, rfl, _⟩ := h; rfl) | (obtain ⟨_, _, _, _, _, _, _, _, _, _, rfl, _⟩ := h; rfl)) h) | (obtain ⟨rfl, _⟩ := h; rfl) | (obtain ⟨_, rfl, _⟩ := h; rfl) | (obtain ⟨_, _, rfl, _⟩ := h; rfl) | (obtain ⟨_, _, _, rfl, _⟩ := h; rfl) | (obtain ⟨_, _, _, _, rfl, _⟩ := h; rfl) | (obtain ⟨_, _, _, _, _, rfl, _⟩ := h; rfl) | (obtain ⟨_, _, _, _, _, _, rfl, _⟩ := h; rfl) | (obtain ⟨_, _, _, _, _, _, _, rfl, _⟩ := h; rfl) | (obtain ⟨_, _, _, _, _, _, _, _, rfl, _⟩ := h; rfl) | (obtain ⟨_, _, _, _, _, _, _, _, _, rfl, _⟩ := h; rfl) | (obtain ⟨_, _, _, _, _, _, _, _, _, _, rfl, _⟩ := h; rfl)) (fun cdv A outer s H vs Q E hr h => ⟨t_Log_init d, ?_, pure_Log_init T.t_Log h⟩)
  exact (pss_cons (ps_fld (pv 0) (pe_lst (pa_cons pe_dnewK pa_nil)) rfl)
      (pss_one (ps_fld (pv 0) pe_dnewK rfl)))
theorem ok_Log_write (T : Txt d mg z) : FnOk P w d.K mg base CX0 1 z.f_Log_write z.d_Log_write ["self", "box", "number"] (sp_Log_write d) := by
  refine T.F_Log_write.ok sc_Log_write (fun vs H Q E h => by first | (exact lift_len (fun ds W Q h => by first | (obtain ⟨rfl, _⟩ := h; rfl) | (obtain ⟨_, rfl, _⟩ := h; rfl) | (obtain ⟨_, _, rfl, _⟩ := h; rfl) | (obtain ⟨_, _, _, rfl, _⟩ := h; rfl) | (obtain ⟨_, _, _, _, rfl, _⟩ := h; rfl) | (obtain ⟨_, _, _, _, _, rfl, _⟩ := h; rfl) | (obtain ⟨_, _, _, _, _, _, rfl, _⟩ := h; rfl) | (obtain ⟨_, _, _, _, _, _, _, rfl, _⟩ := h; rfl) | (obtain ⟨_, _, _, _, _, _, _, _, rfl, _⟩ := h; rfl) | (obtain ⟨_, _, _, _, _, _, _, _, _, rfl, _⟩ := h; rfl) | (obtain ⟨_, _, _, _, _, _, _, _, _, _, rfl, _⟩ := h; rfl)) h) | (obtain ⟨rfl, _⟩ := h; rfl) | (obtain ⟨_, rfl, _⟩ := h; rfl) | (obtain ⟨_, _, rfl, _⟩ := h; rfl) | (obtain ⟨_, _, _, rfl, _⟩ := h; rfl) | (obtain ⟨_, _, _, _, rfl, _⟩ := h; rfl) | (obtain ⟨_, _, _, _, _, rfl, _⟩ := h; rfl) | (obtain ⟨_, _, _, _, _, _, rfl, _⟩ := h; rfl) | (obtain ⟨_, _, _, _, _, _, _, rfl, _⟩ := h; rfl) | (obtain ⟨_, _, _, _, _, _, _, _, rfl, _⟩ := h; rfl) | (obtain ⟨_, _, _, _, _, _, _, _, _, rfl, _⟩ := h; rfl) | (obtain ⟨_, _, _, _, _, _, _, _, _, _, rfl, _⟩ := h; rfl)) (fun cdv A outer s H vs Q E hr h => ⟨t_Log_write d, ?_, pure_Log_write T.t_Log h⟩)
  have hu := hu_of hr
  exact (pss_one (ps_dput hu (pe_ix ix_list (pe_fld (pv 0) rfl) (pe_un un_neg pe_int) (fun _ _ => rfl)) (pv 1) (pv 2) rfl))
theorem ok_Log_own (T : Txt d mg z) : FnOk P w d.K mg base CX0 1 z.f_Log_own z.d_Log_own ["self", "box"] (sp_Log_own d) := by
  refine T.F_Log_own.ok sc_Log_own (fun vs H Q E h => by first | (exact lift_len (fun ds W Q h => by first | (obtain ⟨rfl, _⟩ := h; rfl) | (obtain ⟨_, rfl, _⟩ := h; rfl) | (obtain ⟨_, _, rfl, _⟩ := h; rfl) | (obtain ⟨_, _, _, rfl, _⟩ := h; rfl) | (obtain ⟨_, _, _, _, rfl, _⟩ := h; rfl) | (obtain ⟨_, _, _, _, _, rfl, _⟩ := h; rfl) | (obtain ⟨_, _, _, _, _, _, rfl, _⟩ := h; rfl) | (obtain ⟨_, _, _, _, _, _, _, rfl, _⟩ := h; rfl) | (obtain ⟨_, _, _, _, _, _, _, _, rfl, _⟩ := h; rfl) | (obtain ⟨_, _, _, _, _, _, _, _, _, rfl, _⟩ := h; rfl) | (obtain ⟨_, _, _, _, _, _, _, _, _, _, rfl, _⟩ := h; rfl)) h) | (obtain ⟨rfl, _⟩ := h; rfl) | (obtain ⟨_, rfl, _⟩ := h; rfl) | (obtain ⟨_, _, rfl, _⟩ := h; rfl) | (obtain ⟨_, _, _, rfl, _⟩ := h; rfl) | (obtain ⟨_, _, _, _, rfl, _⟩ := h; rfl) | (obtain ⟨_, _, _, _, _, rfl, _⟩ := h; rfl) | (obtain ⟨_, _, _, _, _, _, rfl, _⟩ := h; rfl) | (obtain ⟨_, _, _, _, _, _, _, rfl, _⟩ := h; rfl) | (obtain ⟨_, _, _, _, _, _, _, _, rfl, _⟩ := h; rfl) | (obtain ⟨_, _, _, _, _, _, _, _, _, rfl, _⟩ := h; rfl) | (obtain ⟨_, _, _, _, _, _, _, _, _, _, rfl, _⟩ := h; rfl)) (fun cdv A outer s H vs Q E hr h => ⟨t_Log_own d, ?_, pure_Log_own T.t_Log h⟩)
  have hu := hu_of hr
  exact (pss_cons (ps_for PassesOwn.never rfl (pi_reversed (by rfl) T.b_reversed (pa_cons (pe_fld (pv 0) rfl) pa_nil)) (pg_name (i := 2) sc_Log_own.nd rfl (Or.inl rfl)) (pss_one (ps_if (pt_cmp (pc_din hu (pv 1) (pv 2))) (pss_one (ps_ret (pe_dget hu (pv 2) (pv 1) (fun _ _ => rfl)))) pss_nil)))
      (pss_one (ps_ret pe_non)))
theorem ok_Log_begin (T : Txt d mg z) : FnOk P w d.K mg base CX0 1 z.f_Log_begin z.d_Log_begin ["self"] (sp_Log_begin d) := by
  refine T.F_Log_begin.ok sc_Log_begin (fun vs H Q E h => by first | (exact lift_len (fun ds W Q h => by first | (obtain ⟨rfl, _⟩ := h; rfl) | (obtain ⟨_, rfl, _⟩ := h; rfl) | (obtain ⟨_, _, rfl, _⟩ := h; rfl) | (obtain ⟨_, _, _, rfl, _⟩ := h; rfl) | (obtain ⟨_, _, _, _, rfl, _⟩ := h; rfl) | (obtain ⟨_, _, _, _, _, rfl, _⟩ := h; rfl) | (obtain ⟨_, _, _, _, _, _, rfl, _⟩ := h; rfl) | (obtain ⟨_, _, _, _, _, _, _, rfl, _⟩ := h; rfl) | (obtain ⟨_, _, _, _, _, _, _, _, rfl, _⟩ := h; rfl) | (obtain ⟨_, _, _, _, _, _, _, _, _, rfl, _⟩ := h; rfl) | (obtain ⟨_, _, _, _, _, _, _, _, _, _, rfl, _⟩ := h; rfl)) h) | (obtain ⟨rfl, _⟩ := h; rfl) | (obtain ⟨_, rfl, _⟩ := h; rfl) | (obtain ⟨_, _, rfl, _⟩ := h; rfl) | (obtain ⟨_, _, _, rfl, _⟩ := h; rfl) | (obtain ⟨_, _, _, _, rfl, _⟩ := h; rfl) | (obtain ⟨_, _, _, _, _, rfl, _⟩ := h; rfl) | (obtain ⟨_, _, _, _, _, _, rfl, _⟩ := h; rfl) | (obtain ⟨_, _, _, _, _, _, _, rfl, _⟩ := h; rfl) | (obtain ⟨_, _, _, _, _, _, _, _, rfl, _⟩ := h; rfl) | (obtain ⟨_, _, _, _, _, _, _, _, _, rfl, _⟩ := h; rfl) | (obtain ⟨_, _, _, _, _, _, _, _, _, _, rfl, _⟩ := h; rfl)) (fun cdv A outer s H vs Q E hr h => ⟨t_Log_begin d, ?_, pure_Log_begin T.t_Log h⟩)
  exact (pss_one (ps_expr (pe_bm PySem.F.plainAttrs_list PySem.F.slot_list_append PySem.F.type_list_append mt_append (pe_fld (pv 0) rfl) (pa_cons pe_dnewK pa_nil))))
theorem ok_Log_settle (T : Txt d mg z) : FnOk P w d.K mg base CX0 1 z.f_Log_settle z.d_Log_settle ["self"] (sp_Log_settle d) := by
  refine T.F_Log_settle.ok sc_Log_settle (fun vs H Q E h => by first | (exact lift_len (fun ds W Q h => by first | (obtain ⟨rfl, _⟩ := h; rfl) | (obtain ⟨_, rfl, _⟩ := h; rfl) | (obtain ⟨_, _, rfl, _⟩ := h; rfl) | (obtain ⟨_, _, _, rfl, _⟩ := h; rfl) | (obtain ⟨_, _, _, _, rfl, _⟩ := h; rfl) | (obtain ⟨_, _, _, _, _, rfl, _⟩ := h; rfl) | (obtain ⟨_, _, _, _, _, _, rfl, _⟩ := h; rfl) | (obtain ⟨_, _, _, _, _, _, _, rfl, _⟩ := h; rfl) | (obtain ⟨_, _, _, _, _, _, _, _, rfl, _⟩ := h; rfl) | (obtain ⟨_, _, _, _, _, _, _, _, _, rfl, _⟩ := h; rfl) | (obtain ⟨_, _, _, _, _, _, _, _, _, _, rfl, _⟩ := h; rfl)) h) | (obtain ⟨rfl, _⟩ := h; rfl) | (obtain ⟨_, rfl, _⟩ := h; rfl) | (obtain ⟨_, _, rfl, _⟩ := h; rfl) | (obtain ⟨_, _, _, rfl, _⟩ := h; rfl) | (obtain ⟨_, _, _, _, rfl, _⟩ := h; rfl) | (obtain ⟨_, _, _, _, _, rfl, _⟩ := h; rfl) | (obtain ⟨_, _, _, _, _, _, rfl, _⟩ := h; rfl) | (obtain ⟨_, _, _, _, _, _, _, rfl, _⟩ := h; rfl) | (obtain ⟨_, _, _, _, _, _, _, _, rfl, _⟩ := h; rfl) | (obtain ⟨_, _, _, _, _, _, _, _, _, rfl, _⟩ := h; rfl) | (obtain ⟨_, _, _, _, _, _, _, _, _, _, rfl, _⟩ := h; rfl)) (fun cdv A outer s H vs Q E hr h => ⟨t_Log_settle d, ?_, pure_Log_settle T.t_Log h⟩)
  have hu := hu_of hr
  exact (pss_cons (ps_set (i := 1) sc_Log_settle.nd rfl (Or.inl rfl) (pe_bm0 PySem.F.plainAttrs_list PySem.F.slot_list_pop PySem.F.type_list_pop mt_pop (pe_fld (pv 0) rfl)))
      (pss_one (ps_lock (ps_for PassesOwn.never rfl (pi_items (pv 1)) (pg_tup rfl (pgs_cons (pg_name (i := 2) sc_Log_settle.nd rfl (Or.inl rfl)) (pgs_cons (pg_name (i := 3) sc_Log_settle.nd rfl (Or.inl rfl)) pgs_nil))) (pss_one (ps_dput hu (pe_ix ix_list (pe_fld (pv 0) rfl) (pe_un un_neg pe_int) (fun _ _ => rfl)) (pv 2) (pv 3) rfl))))))
theorem ok_Log_drop (T : Txt d mg z) : FnOk P w d.K mg base CX0 1 z.f_Log_drop z.d_Log_drop ["self"] (sp_Log_drop d) := by
  refine T.F_Log_drop.ok sc_Log_drop (fun vs H Q E h => by first | (exact lift_len (fun ds W Q h => by first | (obtain ⟨rfl, _⟩ := h; rfl) | (obtain ⟨_, rfl, _⟩ := h; rfl) | (obtain ⟨_, _, rfl, _⟩ := h; rfl) | (obtain ⟨_, _, _, rfl, _⟩ := h; rfl) | (obtain ⟨_, _, _, _, rfl, _⟩ := h; rfl) | (obtain ⟨_, _, _, _, _, rfl, _⟩ := h; rfl) | (obtain ⟨_, _, _, _, _, _, rfl, _⟩ := h; rfl) | (obtain ⟨_, _, _, _, _, _, _, rfl, _⟩ := h; rfl) | (obtain ⟨_, _, _, _, _, _, _, _, rfl, _⟩ := h; rfl) | (obtain ⟨_, _, _, _, _, _, _, _, _, rfl, _⟩ := h; rfl) | (obtain ⟨_, _, _, _, _, _, _, _, _, _, rfl, _⟩ := h; rfl)) h) | (obtain ⟨rfl, _⟩ := h; rfl) | (obtain ⟨_, rfl, _⟩ := h; rfl) | (obtain ⟨_, _, rfl, _⟩ := h; rfl) | (obtain ⟨_, _, _, rfl, _⟩ := h; rfl) | (obtain ⟨_, _, _, _, rfl, _⟩ := h; rfl) | (obtain ⟨_, _, _, _, _, rfl, _⟩ := h; rfl) | (obtain ⟨_, _, _, _, _, _, rfl, _⟩ := h; rfl) | (obtain ⟨_, _, _, _, _, _, _, rfl, _⟩ := h; rfl) | (obtain ⟨_, _, _, _, _, _, _, _, rfl, _⟩ := h; rfl) | (obtain ⟨_, _, _, _, _, _, _, _, _, rfl, _⟩ := h; rfl) | (obtain ⟨_, _, _, _, _, _, _, _, _, _, rfl, _⟩ := h; rfl)) (fun cdv A outer s H vs Q E hr h => ⟨t_Log_drop d, ?_, pure_Log_drop T.t_Log h⟩)
  exact (pss_one (ps_expr (pe_bm0 PySem.F.plainAttrs_list PySem.F.slot_list_pop PySem.F.type_list_pop mt_pop (pe_fld (pv 0) rfl))))
theorem ok_Log_see (T : Txt d mg z) : FnOk P w d.K mg base CX0 1 z.f_Log_see z.d_Log_see ["self", "box", "number"] (sp_Log_see d) := by
  refine T.F_Log_see.ok sc_Log_see (fun vs H Q E h => by first | (exact lift_len (fun ds W Q h => by first | (obtain ⟨rfl, _⟩ := h; rfl) | (obtain ⟨_, rfl, _⟩ := h; rfl) | (obtain ⟨_, _, rfl, _⟩ := h; rfl) | (obtain ⟨_, _, _, rfl, _⟩ := h; rfl) | (obtain ⟨_, _, _, _, rfl, _⟩ := h; rfl) | (obtain ⟨_, _, _, _, _, rfl, _⟩ := h; rfl) | (obtain ⟨_, _, _, _, _, _, rfl, _⟩ := h; rfl) | (obtain ⟨_, _, _, _, _, _, _, rfl, _⟩ := h; rfl) | (obtain ⟨_, _, _, _, _, _, _, _, rfl, _⟩ := h; rfl) | (obtain ⟨_, _, _, _, _, _, _, _, _, rfl, _⟩ := h; rfl) | (obtain ⟨_, _, _, _, _, _, _, _, _, _, rfl, _⟩ := h; rfl)) h) | (obtain ⟨rfl, _⟩ := h; rfl) | (obtain ⟨_, rfl, _⟩ := h; rfl) | (obtain ⟨_, _, rfl, _⟩ := h; rfl) | (obtain ⟨_, _, _, rfl, _⟩ := h; rfl) | (obtain ⟨_, _, _, _, rfl, _⟩ := h; rfl) | (obtain ⟨_, _, _, _, _, rfl, _⟩ := h; rfl) | (obtain ⟨_, _, _, _, _, _, rfl, _⟩ := h; rfl) | (obtain ⟨_, _, _, _, _, _, _, rfl, _⟩ := h; rfl) | (obtain ⟨_, _, _, _, _, _, _, _, rfl, _⟩ := h; rfl) | (obtain ⟨_, _, _, _, _, _, _, _, _, rfl, _⟩ := h; rfl) | (obtain ⟨_, _, _, _, _, _, _, _, _, _, rfl, _⟩ := h; rfl)) (fun cdv A outer s H vs Q E hr h => ⟨t_Log_see d, ?_, pure_Log_see T.t_Log h⟩)
  have hu := hu_of hr
  exact (pss_one (ps_dput hu (pe_fld (pv 0) rfl) (pv 1) (pv 2) rfl))
theorem ok_Log_saw (T : Txt d mg z) : FnOk P w d.K mg base CX0 2 z.f_Log_saw z.d_Log_saw ["self"] (sp_Log_saw d) := by
  have G_by_boxes := ok_by_boxes (P := P) (w := w) (base := base) T
  refine T.F_Log_saw.ok sc_Log_saw (fun vs H Q E h => by first | (exact lift_len (fun ds W Q h => by first | (obtain ⟨rfl, _⟩ := h; rfl) | (obtain ⟨_, rfl, _⟩ := h; rfl) | (obtain ⟨_, _, rfl, _⟩ := h; rfl) | (obtain ⟨_, _, _, rfl, _⟩ := h; rfl) | (obtain ⟨_, _, _, _, rfl, _⟩ := h; rfl) | (obtain ⟨_, _, _, _, _, rfl, _⟩ := h; rfl) | (obtain ⟨_, _, _, _, _, _, rfl, _⟩ := h; rfl) | (obtain ⟨_, _, _, _, _, _, _, rfl, _⟩ := h; rfl) | (obtain ⟨_, _, _, _, _, _, _, _, rfl, _⟩ := h; rfl) | (obtain ⟨_, _, _, _, _, _, _, _, _, rfl, _⟩ := h; rfl) | (obtain ⟨_, _, _, _, _, _, _, _, _, _, rfl, _⟩ := h; rfl)) h) | (obtain ⟨rfl, _⟩ := h; rfl) | (obtain ⟨_, rfl, _⟩ := h; rfl) | (obtain ⟨_, _, rfl, _⟩ := h; rfl) | (obtain ⟨_, _, _, rfl, _⟩ := h; rfl) | (obtain ⟨_, _, _, _, rfl, _⟩ := h; rfl) | (obtain ⟨_, _, _, _, _, rfl, _⟩ := h; rfl) | (obtain ⟨_, _, _, _, _, _, rfl, _⟩ := h; rfl) | (obtain ⟨_, _, _, _, _, _, _, rfl, _⟩ := h; rfl) | (obtain ⟨_, _, _, _, _, _, _, _, rfl, _⟩ := h; rfl) | (obtain ⟨_, _, _, _, _, _, _, _, _, rfl, _⟩ := h; rfl) | (obtain ⟨_, _, _, _, _, _, _, _, _, _, rfl, _⟩ := h; rfl)) (fun cdv A outer s H vs Q E hr h => ⟨t_Log_saw d, ?_, pure_Log_saw T.t_Log h⟩)
  exact (pss_one (ps_ret (pe_call G_by_boxes (hr.mono (by omega)) rfl T.m_by_boxes T.F_by_boxes.kp T.B_by_boxes .nil pass0 (pa_cons (pe_fld (pv 0) rfl) pa_nil))))
theorem ok_Log_wrote (T : Txt d mg z) : FnOk P w d.K mg base CX0 2 z.f_Log_wrote z.d_Log_wrote ["self"] (sp_Log_wrote d) := by
  have G_by_boxes := ok_by_boxes (P := P) (w := w) (base := base) T
  refine T.F_Log_wrote.ok sc_Log_wrote (fun vs H Q E h => by first | (exact lift_len (fun ds W Q h => by first | (obtain ⟨rfl, _⟩ := h; rfl) | (obtain ⟨_, rfl, _⟩ := h; rfl) | (obtain ⟨_, _, rfl, _⟩ := h; rfl) | (obtain ⟨_, _, _, rfl, _⟩ := h; rfl) | (obtain ⟨_, _, _, _, rfl, _⟩ := h; rfl) | (obtain ⟨_, _, _, _, _, rfl, _⟩ := h; rfl) | (obtain ⟨_, _, _, _, _, _, rfl, _⟩ := h; rfl) | (obtain ⟨_, _, _, _, _, _, _, rfl, _⟩ := h; rfl) | (obtain ⟨_, _, _, _, _, _, _, _, rfl, _⟩ := h; rfl) | (obtain ⟨_, _, _, _, _, _, _, _, _, rfl, _⟩ := h; rfl) | (obtain ⟨_, _, _, _, _, _, _, _, _, _, rfl, _⟩ := h; rfl)) h) | (obtain ⟨rfl, _⟩ := h; rfl) | (obtain ⟨_, rfl, _⟩ := h; rfl) | (obtain ⟨_, _, rfl, _⟩ := h; rfl) | (obtain ⟨_, _, _, rfl, _⟩ := h; rfl) | (obtain ⟨_, _, _, _, rfl, _⟩ := h; rfl) | (obtain ⟨_, _, _, _, _, rfl, _⟩ := h; rfl) | (obtain ⟨_, _, _, _, _, _, rfl, _⟩ := h; rfl) | (obtain ⟨_, _, _, _, _, _, _, rfl, _⟩ := h; rfl) | (obtain ⟨_, _, _, _, _, _, _, _, rfl, _⟩ := h; rfl) | (obtain ⟨_, _, _, _, _, _, _, _, _, rfl, _⟩ := h; rfl) | (obtain ⟨_, _, _, _, _, _, _, _, _, _, rfl, _⟩ := h; rfl)) (fun cdv A outer s H vs Q E hr h => ⟨t_Log_wrote d, ?_, pure_Log_wrote T.t_Log h⟩)
  exact (pss_one (ps_ret (pe_call G_by_boxes (hr.mono (by omega)) rfl T.m_by_boxes T.F_by_boxes.kp T.B_by_boxes .nil pass0 (pa_cons (pe_ix ix_list (pe_fld (pv 0) rfl) pe_int (fun _ _ => rfl)) pa_nil))))
theorem ok_reckon (T : Txt d mg z) : FnOk P w d.K mg base CX0 1 z.f_reckon z.d_reckon ["word", "one", "other"] (sp_reckon d) := by
  refine T.F_reckon.ok sc_reckon (fun vs H Q E h => by first | (exact lift_len (fun ds W Q h => by first | (obtain ⟨rfl, _⟩ := h; rfl) | (obtain ⟨_, rfl, _⟩ := h; rfl) | (obtain ⟨_, _, rfl, _⟩ := h; rfl) | (obtain ⟨_, _, _, rfl, _⟩ := h; rfl) | (obtain ⟨_, _, _, _, rfl, _⟩ := h; rfl) | (obtain ⟨_, _, _, _, _, rfl, _⟩ := h; rfl) | (obtain ⟨_, _, _, _, _, _, rfl, _⟩ := h; rfl) | (obtain ⟨_, _, _, _, _, _, _, rfl, _⟩ := h; rfl) | (obtain ⟨_, _, _, _, _, _, _, _, rfl, _⟩ := h; rfl) | (obtain ⟨_, _, _, _, _, _, _, _, _, rfl, _⟩ := h; rfl) | (obtain ⟨_, _, _, _, _, _, _, _, _, _, rfl, _⟩ := h; rfl)) h) | (obtain ⟨rfl, _⟩ := h; rfl) | (obtain ⟨_, rfl, _⟩ := h; rfl) | (obtain ⟨_, _, rfl, _⟩ := h; rfl) | (obtain ⟨_, _, _, rfl, _⟩ := h; rfl) | (obtain ⟨_, _, _, _, rfl, _⟩ := h; rfl) | (obtain ⟨_, _, _, _, _, rfl, _⟩ := h; rfl) | (obtain ⟨_, _, _, _, _, _, rfl, _⟩ := h; rfl) | (obtain ⟨_, _, _, _, _, _, _, rfl, _⟩ := h; rfl) | (obtain ⟨_, _, _, _, _, _, _, _, rfl, _⟩ := h; rfl) | (obtain ⟨_, _, _, _, _, _, _, _, _, rfl, _⟩ := h; rfl) | (obtain ⟨_, _, _, _, _, _, _, _, _, _, rfl, _⟩ := h; rfl)) (fun cdv A outer s H vs Q E hr h => ⟨t_reckon d, ?_, pure_reckon  h⟩)
  exact (pss_cons (ps_if (pt_cmpR op_eq (pv 0) pe_str (nomark _)) (pss_one (ps_ret (pe_op op_mod (pe_op op_add (pv 1) (pv 2)) (pe_glob rfl T.g_WIDE ⟨_, rfl⟩)))) pss_nil)
      (pss_cons (ps_if (pt_cmpR op_eq (pv 0) pe_str (nomark _)) (pss_one (ps_ret (pe_op op_mod (pe_op op_sub (pv 1) (pv 2)) (pe_glob rfl T.g_WIDE ⟨_, rfl⟩)))) pss_nil)
      (pss_cons (ps_if (pt_cmpR op_eq (pv 0) pe_str (nomark _)) (pss_one (ps_ret (pe_op op_mod (pe_op op_mul (pv 1) (pv 2)) (pe_glob rfl T.g_WIDE ⟨_, rfl⟩)))) pss_nil)
      (pss_cons (ps_if (pt_cmpR op_eq (pv 0) pe_str (nomark _)) (pss_one (ps_ret (pe_callTy call_int1 (by rfl) T.b_int (by decide +kernel) (pa_cons (pe_cmpR o_lt (pv 1) (pv 2) (nomark _)) pa_nil)))) pss_nil)
      (pss_one (ps_ret (pe_callTy call_int1 (by rfl) T.b_int (by decide +kernel) (pa_cons (pe_cmpR op_eq (pv 1) (pv 2) (nomark _)) pa_nil))))))))
theorem ok_Doer_init (T : Txt d mg z) : FnOk P w d.K mg base CX0 3 z.f_Doer_init z.d_Doer_init ["self", "boxes", "slots"] (sp_Doer_init d) := by
  have G_Log_init := ok_Log_init (P := P) (w := w) (base := base) T
  refine T.F_Doer_init.ok sc_Doer_init (fun vs H Q E h => by first | (exact lift_len (fun ds W Q h => by first | (obtain ⟨rfl, _⟩ := h; rfl) | (obtain ⟨_, rfl, _⟩ := h; rfl) | (obtain ⟨_, _, rfl, _⟩ := h; rfl) | (obtain ⟨_, _, _, rfl, _⟩ := h; rfl) | (obtain ⟨_, _, _, _, rfl, _⟩ := h; rfl) | (obtain ⟨_, _, _, _, _, rfl, _⟩ := h; rfl) | (obtain ⟨_, _, _, _, _, _, rfl, _⟩ := h; rfl) | (obtain ⟨_, _, _, _, _, _, _, rfl, _⟩ := h; rfl) | (obtain ⟨_, _, _, _, _, _, _, _, rfl, _⟩ := h; rfl) | (obtain ⟨_, _, _, _, _, _, _, _, _, rfl, _⟩ := h; rfl) | (obtain ⟨_, _, _, _, _, _, _, _, _, _, rfl, _⟩ := h; rfl)) h) | (obtain ⟨rfl, _⟩ := h; rfl) | (obtain ⟨_, rfl, _⟩ := h; rfl) | (obtain ⟨_, _, rfl, _⟩ := h; rfl) | (obtain ⟨_, _, _, rfl, _⟩ := h; rfl) | (obtain ⟨_, _, _, _, rfl, _⟩ := h; rfl) | (obtain ⟨_, _, _, _, _, rfl, _⟩ := h; rfl) | (obtain ⟨_, _, _, _, _, _, rfl, _⟩ := h; rfl) | (obtain ⟨_, _, _, _, _, _, _, rfl, _⟩ := h; rfl) | (obtain ⟨_, _, _, _, _, _, _, _, rfl, _⟩ := h; rfl) | (obtain ⟨_, _, _, _, _, _, _, _, _, rfl, _⟩ := h; rfl) | (obtain ⟨_, _, _, _, _, _, _, _, _, _, rfl, _⟩ := h; rfl)) (fun cdv A outer s H vs Q E hr h => ⟨t_Doer_init d, ?_, pure_Doer_init T.t_Doer h⟩)
  exact (pss_cons (ps_fld (pv 0) (pe_callTy call_list_of (by rfl) T.b_list (by decide +kernel) (pa_cons (pv 1) pa_nil)) rfl)
      (pss_cons (ps_fld (pv 0) (pe_callTy call_list_of (by rfl) T.b_list (by decide +kernel) (pa_cons (pv 2) pa_nil)) rfl)
      (pss_one (ps_fld (pv 0) (pe_make0 T.K_Log G_Log_init (hr.mono (by omega)) rfl T.g_Log T.B_Log_init .nil pass0) rfl))))
theorem ok_Doer_look (T : Txt d mg z) : FnOk P w d.K mg base CX0 1 z.f_Doer_look z.d_Doer_look ["self", "letter"] (sp_Doer_look d) := by
  refine T.F_Doer_look.ok sc_Doer_look (fun vs H Q E h => by first | (exact lift_len (fun ds W Q h => by first | (obtain ⟨rfl, _⟩ := h; rfl) | (obtain ⟨_, rfl, _⟩ := h; rfl) | (obtain ⟨_, _, rfl, _⟩ := h; rfl) | (obtain ⟨_, _, _, rfl, _⟩ := h; rfl) | (obtain ⟨_, _, _, _, rfl, _⟩ := h; rfl) | (obtain ⟨_, _, _, _, _, rfl, _⟩ := h; rfl) | (obtain ⟨_, _, _, _, _, _, rfl, _⟩ := h; rfl) | (obtain ⟨_, _, _, _, _, _, _, rfl, _⟩ := h; rfl) | (obtain ⟨_, _, _, _, _, _, _, _, rfl, _⟩ := h; rfl) | (obtain ⟨_, _, _, _, _, _, _, _, _, rfl, _⟩ := h; rfl) | (obtain ⟨_, _, _, _, _, _, _, _, _, _, rfl, _⟩ := h; rfl)) h) | (obtain ⟨rfl, _⟩ := h; rfl) | (obtain ⟨_, rfl, _⟩ := h; rfl) | (obtain ⟨_, _, rfl, _⟩ := h; rfl) | (obtain ⟨_, _, _, rfl, _⟩ := h; rfl) | (obtain ⟨_, _, _, _, rfl, _⟩ := h; rfl) | (obtain ⟨_, _, _, _, _, rfl, _⟩ := h; rfl) | (obtain ⟨_, _, _, _, _, _, rfl, _⟩ := h; rfl) | (obtain ⟨_, _, _, _, _, _, _, rfl, _⟩ := h; rfl) | (obtain ⟨_, _, _, _, _, _, _, _, rfl, _⟩ := h; rfl) | (obtain ⟨_, _, _, _, _, _, _, _, _, rfl, _⟩ := h; rfl) | (obtain ⟨_, _, _, _, _, _, _, _, _, _, rfl, _⟩ := h; rfl)) (fun cdv A outer s H vs Q E hr h => ⟨t_Doer_look d, ?_, pure_Doer_look T.t_Doer h⟩)
  exact (pss_one (ps_ret (pe_ix ix_list (pe_fld (pv 0) rfl) (pe_m1 PySem.F.slot_str_find PySem.F.type_str_find mt_find (pe_glob rfl T.g_LETTERS ⟨_, rfl⟩) (pv 1)) (fun _ _ => rfl))))
theorem ok_Doer_give (T : Txt d mg z) : FnOk P w d.K mg base CX0 1 z.f_Doer_give z.d_Doer_give ["self", "letter", "number"] (sp_Doer_give d) := by
  refine T.F_Doer_give.ok sc_Doer_give (fun vs H Q E h => by first | (exact lift_len (fun ds W Q h => by first | (obtain ⟨rfl, _⟩ := h; rfl) | (obtain ⟨_, rfl, _⟩ := h; rfl) | (obtain ⟨_, _, rfl, _⟩ := h; rfl) | (obtain ⟨_, _, _, rfl, _⟩ := h; rfl) | (obtain ⟨_, _, _, _, rfl, _⟩ := h; rfl) | (obtain ⟨_, _, _, _, _, rfl, _⟩ := h; rfl) | (obtain ⟨_, _, _, _, _, _, rfl, _⟩ := h; rfl) | (obtain ⟨_, _, _, _, _, _, _, rfl, _⟩ := h; rfl) | (obtain ⟨_, _, _, _, _, _, _, _, rfl, _⟩ := h; rfl) | (obtain ⟨_, _, _, _, _, _, _, _, _, rfl, _⟩ := h; rfl) | (obtain ⟨_, _, _, _, _, _, _, _, _, _, rfl, _⟩ := h; rfl)) h) | (obtain ⟨rfl, _⟩ := h; rfl) | (obtain ⟨_, rfl, _⟩ := h; rfl) | (obtain ⟨_, _, rfl, _⟩ := h; rfl) | (obtain ⟨_, _, _, rfl, _⟩ := h; rfl) | (obtain ⟨_, _, _, _, rfl, _⟩ := h; rfl) | (obtain ⟨_, _, _, _, _, rfl, _⟩ := h; rfl) | (obtain ⟨_, _, _, _, _, _, rfl, _⟩ := h; rfl) | (obtain ⟨_, _, _, _, _, _, _, rfl, _⟩ := h; rfl) | (obtain ⟨_, _, _, _, _, _, _, _, rfl, _⟩ := h; rfl) | (obtain ⟨_, _, _, _, _, _, _, _, _, rfl, _⟩ := h; rfl) | (obtain ⟨_, _, _, _, _, _, _, _, _, _, rfl, _⟩ := h; rfl)) (fun cdv A outer s H vs Q E hr h => ⟨t_Doer_give d, ?_, pure_Doer_give T.t_Doer h⟩)
  exact (pss_one (ps_asg (pv 2) (pg_sub (pe_fld (pv 0) rfl) (pe_m1 PySem.F.slot_str_find PySem.F.type_str_find mt_find (pe_glob rfl T.g_LETTERS ⟨_, rfl⟩) (pv 1)) set_list)))
theorem ok_Doer_box_at (T : Txt d mg z) : FnOk P w d.K mg base CX0 2 z.f_Doer_box_at z.d_Doer_box_at ["self", "letter"] (sp_Doer_box_at d) := by
  have G_Doer_look := ok_Doer_look (P := P) (w := w) (base := base) T
  refine T.F_Doer_box_at.ok sc_Doer_box_at (fun vs H Q E h => by first | (exact lift_len (fun ds W Q h => by first | (obtain ⟨rfl, _⟩ := h; rfl) | (obtain ⟨_, rfl, _⟩ := h; rfl) | (obtain ⟨_, _, rfl, _⟩ := h; rfl) | (obtain ⟨_, _, _, rfl, _⟩ := h; rfl) | (obtain ⟨_, _, _, _, rfl, _⟩ := h; rfl) | (obtain ⟨_, _, _, _, _, rfl, _⟩ := h; rfl) | (obtain ⟨_, _, _, _, _, _, rfl, _⟩ := h; rfl) | (obtain ⟨_, _, _, _, _, _, _, rfl, _⟩ := h; rfl) | (obtain ⟨_, _, _, _, _, _, _, _, rfl, _⟩ := h; rfl) | (obtain ⟨_, _, _, _, _, _, _, _, _, rfl, _⟩ := h; rfl) | (obtain ⟨_, _, _, _, _, _, _, _, _, _, rfl, _⟩ := h; rfl)) h) | (obtain ⟨rfl, _⟩ := h; rfl) | (obtain ⟨_, rfl, _⟩ := h; rfl) | (obtain ⟨_, _, rfl, _⟩ := h; rfl) | (obtain ⟨_, _, _, rfl, _⟩ := h; rfl) | (obtain ⟨_, _, _, _, rfl, _⟩ := h; rfl) | (obtain ⟨_, _, _, _, _, rfl, _⟩ := h; rfl) | (obtain ⟨_, _, _, _, _, _, rfl, _⟩ := h; rfl) | (obtain ⟨_, _, _, _, _, _, _, rfl, _⟩ := h; rfl) | (obtain ⟨_, _, _, _, _, _, _, _, rfl, _⟩ := h; rfl) | (obtain ⟨_, _, _, _, _, _, _, _, _, rfl, _⟩ := h; rfl) | (obtain ⟨_, _, _, _, _, _, _, _, _, _, rfl, _⟩ := h; rfl)) (fun cdv A outer s H vs Q E hr h => ⟨t_Doer_box_at d, ?_, pure_Doer_box_at T.t_Doer h⟩)
  exact (pss_one (ps_ret (pe_op op_mod (pe_meth (pv 0) T.t_Doer.cl T.M_Doer_look G_Doer_look (hr.mono (by omega)) T.B_Doer_look .nil pass0 (pa_cons (pv 1) pa_nil)) (pe_callB call_len_seq (by rfl) T.b_len (by decide +kernel) (pa_cons (pe_fld (pv 0) rfl) pa_nil)))))
theorem ok_Doer_take_in (T : Txt d mg z) : FnOk P w d.K mg base CX0 3 z.f_Doer_take_in z.d_Doer_take_in ["self", "part"] (sp_Doer_take_in d) := by
  have G_Doer_box_at := ok_Doer_box_at (P := P) (w := w) (base := base) T
  have G_Log_own := ok_Log_own (P := P) (w := w) (base := base) T
  have G_Log_see := ok_Log_see (P := P) (w := w) (base := base) T
  have G_Doer_give := ok_Doer_give (P := P) (w := w) (base := base) T
  refine T.F_Doer_take_in.ok sc_Doer_take_in (fun vs H Q E h => by first | (exact lift_len (fun ds W Q h => by first | (obtain ⟨rfl, _⟩ := h; rfl) | (obtain ⟨_, rfl, _⟩ := h; rfl) | (obtain ⟨_, _, rfl, _⟩ := h; rfl) | (obtain ⟨_, _, _, rfl, _⟩ := h; rfl) | (obtain ⟨_, _, _, _, rfl, _⟩ := h; rfl) | (obtain ⟨_, _, _, _, _, rfl, _⟩ := h; rfl) | (obtain ⟨_, _, _, _, _, _, rfl, _⟩ := h; rfl) | (obtain ⟨_, _, _, _, _, _, _, rfl, _⟩ := h; rfl) | (obtain ⟨_, _, _, _, _, _, _, _, rfl, _⟩ := h; rfl) | (obtain ⟨_, _, _, _, _, _, _, _, _, rfl, _⟩ := h; rfl) | (obtain ⟨_, _, _, _, _, _, _, _, _, _, rfl, _⟩ := h; rfl)) h) | (obtain ⟨rfl, _⟩ := h; rfl) | (obtain ⟨_, rfl, _⟩ := h; rfl) | (obtain ⟨_, _, rfl, _⟩ := h; rfl) | (obtain ⟨_, _, _, rfl, _⟩ := h; rfl) | (obtain ⟨_, _, _, _, rfl, _⟩ := h; rfl) | (obtain ⟨_, _, _, _, _, rfl, _⟩ := h; rfl) | (obtain ⟨_, _, _, _, _, _, rfl, _⟩ := h; rfl) | (obtain ⟨_, _, _, _, _, _, _, rfl, _⟩ := h; rfl) | (obtain ⟨_, _, _, _, _, _, _, _, rfl, _⟩ := h; rfl) | (obtain ⟨_, _, _, _, _, _, _, _, _, rfl, _⟩ := h; rfl) | (obtain ⟨_, _, _, _, _, _, _, _, _, _, rfl, _⟩ := h; rfl)) (fun cdv A outer s H vs Q E hr h => ⟨t_Doer_take_in d, ?_, pure_Doer_take_in T.t_Parts T.t_Doer h⟩)
  exact (pss_cons (ps_set (i := 2) sc_Doer_take_in.nd rfl (Or.inl rfl) (pe_meth (pv 0) T.t_Doer.cl T.M_Doer_box_at G_Doer_box_at (hr.mono (by omega)) T.B_Doer_box_at .nil pass0 (pa_cons (pe_fld (pv 1) rfl) pa_nil)))
      (pss_cons (ps_set (i := 3) sc_Doer_take_in.nd rfl (Or.inl rfl) (pe_meth (pe_fld (pv 0) rfl) T.t_Log.cl T.M_Log_own G_Log_own (hr.mono (by omega)) T.B_Log_own .nil pass0 (pa_cons (pv 2) pa_nil)))
      (pss_cons (ps_if (pt_cmpR op_isN (pv 3) pe_non (nomark _)) (pss_cons (ps_set (i := 3) sc_Doer_take_in.nd rfl (Or.inl rfl) (pe_ix ix_list (pe_fld (pv 0) rfl) (pv 2) (fun _ _ => rfl)))
      (pss_one (ps_expr (pe_meth (pe_fld (pv 0) rfl) T.t_Log.cl T.M_Log_see G_Log_see (hr.mono (by omega)) T.B_Log_see .nil pass0 (pa_cons (pv 2) (pa_cons (pv 3) pa_nil)))))) pss_nil)
      (pss_one (ps_expr (pe_meth (pv 0) T.t_Doer.cl T.M_Doer_give G_Doer_give (hr.mono (by omega)) T.B_Doer_give .nil pass0 (pa_cons (pe_fld (pv 1) rfl) (pa_cons (pv 3) pa_nil))))))))
theorem ok_Doer_do_plain (T : Txt d mg z) : FnOk P w d.K mg base CX0 4 z.f_Doer_do_plain z.d_Doer_do_plain ["self", "part"] (sp_Doer_do_plain d) := by
  have G_Doer_give := ok_Doer_give (P := P) (w := w) (base := base) T
  have G_reckon := ok_reckon (P := P) (w := w) (base := base) T
  have G_Doer_look := ok_Doer_look (P := P) (w := w) (base := base) T
  have G_Doer_take_in := ok_Doer_take_in (P := P) (w := w) (base := base) T
  have G_Log_write := ok_Log_write (P := P) (w := w) (base := base) T
  have G_Doer_box_at := ok_Doer_box_at (P := P) (w := w) (base := base) T
  refine T.F_Doer_do_plain.ok sc_Doer_do_plain (fun vs H Q E h => by first | (exact lift_len (fun ds W Q h => by first | (obtain ⟨rfl, _⟩ := h; rfl) | (obtain ⟨_, rfl, _⟩ := h; rfl) | (obtain ⟨_, _, rfl, _⟩ := h; rfl) | (obtain ⟨_, _, _, rfl, _⟩ := h; rfl) | (obtain ⟨_, _, _, _, rfl, _⟩ := h; rfl) | (obtain ⟨_, _, _, _, _, rfl, _⟩ := h; rfl) | (obtain ⟨_, _, _, _, _, _, rfl, _⟩ := h; rfl) | (obtain ⟨_, _, _, _, _, _, _, rfl, _⟩ := h; rfl) | (obtain ⟨_, _, _, _, _, _, _, _, rfl, _⟩ := h; rfl) | (obtain ⟨_, _, _, _, _, _, _, _, _, rfl, _⟩ := h; rfl) | (obtain ⟨_, _, _, _, _, _, _, _, _, _, rfl, _⟩ := h; rfl)) h) | (obtain ⟨rfl, _⟩ := h; rfl) | (obtain ⟨_, rfl, _⟩ := h; rfl) | (obtain ⟨_, _, rfl, _⟩ := h; rfl) | (obtain ⟨_, _, _, rfl, _⟩ := h; rfl) | (obtain ⟨_, _, _, _, rfl, _⟩ := h; rfl) | (obtain ⟨_, _, _, _, _, rfl, _⟩ := h; rfl) | (obtain ⟨_, _, _, _, _, _, rfl, _⟩ := h; rfl) | (obtain ⟨_, _, _, _, _, _, _, rfl, _⟩ := h; rfl) | (obtain ⟨_, _, _, _, _, _, _, _, rfl, _⟩ := h; rfl) | (obtain ⟨_, _, _, _, _, _, _, _, _, rfl, _⟩ := h; rfl) | (obtain ⟨_, _, _, _, _, _, _, _, _, _, rfl, _⟩ := h; rfl)) (fun cdv A outer s H vs Q E hr h => ⟨t_Doer_do_plain d, ?_, pure_Doer_do_plain T.t_Parts T.t_Doer h⟩)
  exact (pss_one (ps_if (pt_val (pe_callB call_isi (by rfl) T.b_isinstance (by decide +kernel) (pa_cons (pv 1) (pa_cons (pe_glob rfl T.g_Let rfl) pa_nil)))) (pss_one (ps_expr (pe_meth (pv 0) T.t_Doer.cl T.M_Doer_give G_Doer_give (hr.mono (by omega)) T.B_Doer_give .nil pass0 (pa_cons (pe_fld (pv 1) rfl) (pa_cons (pe_fld (pv 1) rfl) pa_nil))))) (pss_one (ps_if (pt_val (pe_callB call_isi (by rfl) T.b_isinstance (by decide +kernel) (pa_cons (pv 1) (pa_cons (pe_glob rfl T.g_Reckon rfl) pa_nil)))) (pss_one (ps_expr (pe_meth (pv 0) T.t_Doer.cl T.M_Doer_give G_Doer_give (hr.mono (by omega)) T.B_Doer_give .nil pass0 (pa_cons (pe_fld (pv 1) rfl) (pa_cons (pe_call G_reckon (hr.mono (by omega)) rfl T.m_reckon T.F_reckon.kp T.B_reckon .nil pass0 (pa_cons (pe_fld (pv 1) rfl) (pa_cons (pe_meth (pv 0) T.t_Doer.cl T.M_Doer_look G_Doer_look (hr.mono (by omega)) T.B_Doer_look .nil pass0 (pa_cons (pe_fld (pv 1) rfl) pa_nil)) (pa_cons (pe_meth (pv 0) T.t_Doer.cl T.M_Doer_look G_Doer_look (hr.mono (by omega)) T.B_Doer_look .nil pass0 (pa_cons (pe_fld (pv 1) rfl) pa_nil)) pa_nil)))) pa_nil))))) (pss_one (ps_if (pt_val (pe_callB call_isi (by rfl) T.b_isinstance (by decide +kernel) (pa_cons (pv 1) (pa_cons (pe_glob rfl T.g_Take rfl) pa_nil)))) (pss_one (ps_expr (pe_meth (pv 0) T.t_Doer.cl T.M_Doer_take_in G_Doer_take_in (hr.mono (by omega)) T.B_Doer_take_in .nil pass0 (pa_cons (pv 1) pa_nil)))) (pss_one (ps_if (pt_val (pe_callB call_isi (by rfl) T.b_isinstance (by decide +kernel) (pa_cons (pv 1) (pa_cons (pe_glob rfl T.g_Put rfl) pa_nil)))) (pss_one (ps_expr (pe_meth (pe_fld (pv 0) rfl) T.t_Log.cl T.M_Log_write G_Log_write (hr.mono (by omega)) T.B_Log_write .nil pass0 (pa_cons (pe_meth (pv 0) T.t_Doer.cl T.M_Doer_box_at G_Doer_box_at (hr.mono (by omega)) T.B_Doer_box_at .nil pass0 (pa_cons (pe_fld (pv 1) rfl) pa_nil)) (pa_cons (pe_meth (pv 0) T.t_Doer.cl T.M_Doer_look G_Doer_look (hr.mono (by omega)) T.B_Doer_look .nil pass0 (pa_cons (pe_fld (pv 1) rfl) pa_nil)) pa_nil))))) pss_nil))))))))
theorem okG_Doer_do_either (T : Txt d mg z) : (n : Nat) → FnOk P w d.K mg base CX0 (n + 4) z.f_Doer_do_either z.d_Doer_do_either ["self", "part"] (spN_Doer_do_either n d) ∧ FnOk P w d.K mg base CX0 (n + 4) z.f_Doer_do_try z.d_Doer_do_try ["self", "part"] (spN_Doer_do_try n d) ∧ FnOk P w d.K mg base CX0 (n + 4) z.f_Doer_do_part z.d_Doer_do_part ["self", "part"] (spN_Doer_do_part n d) ∧ FnOk P w d.K mg base CX0 (n + 4) z.f_Doer_do_all z.d_Doer_do_all ["self", "parts"] (spN_Doer_do_all n d)
  | 0 => ⟨fnok_no fun vs H Q E h => no_Doer_do_either h, fnok_no fun vs H Q E h => no_Doer_do_try h, fnok_no fun vs H Q E h => no_Doer_do_part h, fnok_no fun vs H Q E h => no_Doer_do_all h⟩
  | n + 1 => by
    have G_Log_begin := ok_Log_begin (P := P) (w := w) (base := base) T
    have G_Log_settle := ok_Log_settle (P := P) (w := w) (base := base) T
    have G_Log_drop := ok_Log_drop (P := P) (w := w) (base := base) T
    have G_Doer_give := ok_Doer_give (P := P) (w := w) (base := base) T
    have G_Doer_look := ok_Doer_look (P := P) (w := w) (base := base) T
    have G_Doer_do_plain := ok_Doer_do_plain (P := P) (w := w) (base := base) T
    have GG := okG_Doer_do_either T n
    obtain ⟨GN_Doer_do_either, GN_Doer_do_try, GN_Doer_do_part, GN_Doer_do_all⟩ := GG
    refine ⟨?g0, ?g1, ?g2, ?g3⟩
    case g0 =>
      refine FnOk.mono (j := n + 4 + 1) ?_ (by omega)
      refine T.F_Doer_do_either.ok sc_Doer_do_either (fun vs H Q E h => by first | (exact lift_len (fun ds W Q h => by first | (obtain ⟨rfl, _⟩ := h; rfl) | (obtain ⟨_, rfl, _⟩ := h; rfl) | (obtain ⟨_, _, rfl, _⟩ := h; rfl) | (obtain ⟨_, _, _, rfl, _⟩ := h; rfl) | (obtain ⟨_, _, _, _, rfl, _⟩ := h; rfl) | (obtain ⟨_, _, _, _, _, rfl, _⟩ := h; rfl) | (obtain ⟨_, _, _, _, _, _, rfl, _⟩ := h; rfl) | (obtain ⟨_, _, _, _, _, _, _, rfl, _⟩ := h; rfl) | (obtain ⟨_, _, _, _, _, _, _, _, rfl, _⟩ := h; rfl) | (obtain ⟨_, _, _, _, _, _, _, _, _, rfl, _⟩ := h; rfl) | (obtain ⟨_, _, _, _, _, _, _, _, _, _, rfl, _⟩ := h; rfl)) h) | (obtain ⟨rfl, _⟩ := h; rfl) | (obtain ⟨_, rfl, _⟩ := h; rfl) | (obtain ⟨_, _, rfl, _⟩ := h; rfl) | (obtain ⟨_, _, _, rfl, _⟩ := h; rfl) | (obtain ⟨_, _, _, _, rfl, _⟩ := h; rfl) | (obtain ⟨_, _, _, _, _, rfl, _⟩ := h; rfl) | (obtain ⟨_, _, _, _, _, _, rfl, _⟩ := h; rfl) | (obtain ⟨_, _, _, _, _, _, _, rfl, _⟩ := h; rfl) | (obtain ⟨_, _, _, _, _, _, _, _, rfl, _⟩ := h; rfl) | (obtain ⟨_, _, _, _, _, _, _, _, _, rfl, _⟩ := h; rfl) | (obtain ⟨_, _, _, _, _, _, _, _, _, _, rfl, _⟩ := h; rfl)) (fun cdv A outer s H vs Q E hr h => ⟨t_Doer_do_either n d, ?_, pure_Doer_do_either T.t_Parts T.t_Doer h⟩)
      exact (pss_cons (ps_set (i := 2) sc_Doer_do_either.nd rfl (Or.inl rfl) (pe_callTy call_list_of (by rfl) T.b_list (by decide +kernel) (pa_cons (pe_fld (pv 0) rfl) pa_nil)))
        (pss_cons (ps_expr (pe_meth0 (pe_fld (pv 0) rfl) T.t_Log.cl T.M_Log_begin G_Log_begin (hr.mono (by omega)) T.B_Log_begin .nil pass0))
        (pss_cons (ps_set (i := 3) sc_Doer_do_either.nd rfl (Or.inl rfl) (pe_meth (pv 0) T.t_Doer.cl T.M_Doer_do_all GN_Doer_do_all (hr.mono (by omega)) T.B_Doer_do_all .nil pass0 (pa_cons (pe_fld (pv 1) rfl) pa_nil)))
        (pss_cons (ps_if (pt_cmpR op_isN (pv 3) pe_non (nomark _)) (pss_cons (ps_expr (pe_meth0 (pe_fld (pv 0) rfl) T.t_Log.cl T.M_Log_settle G_Log_settle (hr.mono (by omega)) T.B_Log_settle .nil pass0))
        (pss_one (ps_ret pe_non))) pss_nil)
        (pss_cons (ps_expr (pe_meth0 (pe_fld (pv 0) rfl) T.t_Log.cl T.M_Log_drop G_Log_drop (hr.mono (by omega)) T.B_Log_drop .nil pass0))
        (pss_cons (ps_if (pt_cmpR op_ne (pe_ix ix_tup (pv 3) pe_int (fun _ _ => rfl)) pe_str (nomark _)) (pss_one (ps_ret (pv 3))) pss_nil)
        (pss_cons (ps_fld (pv 0) (pv 2) rfl)
        (pss_one (ps_ret (pe_meth (pv 0) T.t_Doer.cl T.M_Doer_do_all GN_Doer_do_all (hr.mono (by omega)) T.B_Doer_do_all .nil pass0 (pa_cons (pe_fld (pv 1) rfl) pa_nil)))))))))))
    case g1 =>
      refine FnOk.mono (j := n + 4 + 1) ?_ (by omega)
      refine T.F_Doer_do_try.ok sc_Doer_do_try (fun vs H Q E h => by first | (exact lift_len (fun ds W Q h => by first | (obtain ⟨rfl, _⟩ := h; rfl) | (obtain ⟨_, rfl, _⟩ := h; rfl) | (obtain ⟨_, _, rfl, _⟩ := h; rfl) | (obtain ⟨_, _, _, rfl, _⟩ := h; rfl) | (obtain ⟨_, _, _, _, rfl, _⟩ := h; rfl) | (obtain ⟨_, _, _, _, _, rfl, _⟩ := h; rfl) | (obtain ⟨_, _, _, _, _, _, rfl, _⟩ := h; rfl) | (obtain ⟨_, _, _, _, _, _, _, rfl, _⟩ := h; rfl) | (obtain ⟨_, _, _, _, _, _, _, _, rfl, _⟩ := h; rfl) | (obtain ⟨_, _, _, _, _, _, _, _, _, rfl, _⟩ := h; rfl) | (obtain ⟨_, _, _, _, _, _, _, _, _, _, rfl, _⟩ := h; rfl)) h) | (obtain ⟨rfl, _⟩ := h; rfl) | (obtain ⟨_, rfl, _⟩ := h; rfl) | (obtain ⟨_, _, rfl, _⟩ := h; rfl) | (obtain ⟨_, _, _, rfl, _⟩ := h; rfl) | (obtain ⟨_, _, _, _, rfl, _⟩ := h; rfl) | (obtain ⟨_, _, _, _, _, rfl, _⟩ := h; rfl) | (obtain ⟨_, _, _, _, _, _, rfl, _⟩ := h; rfl) | (obtain ⟨_, _, _, _, _, _, _, rfl, _⟩ := h; rfl) | (obtain ⟨_, _, _, _, _, _, _, _, rfl, _⟩ := h; rfl) | (obtain ⟨_, _, _, _, _, _, _, _, _, rfl, _⟩ := h; rfl) | (obtain ⟨_, _, _, _, _, _, _, _, _, _, rfl, _⟩ := h; rfl)) (fun cdv A outer s H vs Q E hr h => ⟨t_Doer_do_try n d, ?_, pure_Doer_do_try T.t_Parts T.t_Doer h⟩)
      exact (pss_cons (ps_set (i := 2) sc_Doer_do_try.nd rfl (Or.inl rfl) (pe_callTy call_list_of (by rfl) T.b_list (by decide +kernel) (pa_cons (pe_fld (pv 0) rfl) pa_nil)))
        (pss_cons (ps_expr (pe_meth0 (pe_fld (pv 0) rfl) T.t_Log.cl T.M_Log_begin G_Log_begin (hr.mono (by omega)) T.B_Log_begin .nil pass0))
        (pss_cons (ps_set (i := 3) sc_Doer_do_try.nd rfl (Or.inl rfl) (pe_meth (pv 0) T.t_Doer.cl T.M_Doer_do_all GN_Doer_do_all (hr.mono (by omega)) T.B_Doer_do_all .nil pass0 (pa_cons (pe_fld (pv 1) rfl) pa_nil)))
        (pss_cons (ps_if (pt_cmpR op_isN (pv 3) pe_non (nomark _)) (pss_cons (ps_expr (pe_meth0 (pe_fld (pv 0) rfl) T.t_Log.cl T.M_Log_settle G_Log_settle (hr.mono (by omega)) T.B_Log_settle .nil pass0))
        (pss_one (ps_ret pe_non))) pss_nil)
        (pss_cons (ps_expr (pe_meth0 (pe_fld (pv 0) rfl) T.t_Log.cl T.M_Log_drop G_Log_drop (hr.mono (by omega)) T.B_Log_drop .nil pass0))
        (pss_cons (ps_if (PW.pt (pw_or (pt_cmpR op_ne (pe_ix ix_tup (pv 3) pe_int (fun _ _ => rfl)) pe_str (nomark _)) (pw_or1 (pt_cmpR op_ne (pe_ix ix_tup (pv 3) pe_int (fun _ _ => rfl)) (pe_fld (pv 1) rfl) (nomark _))))) (pss_one (ps_ret (pv 3))) pss_nil)
        (pss_cons (ps_fld (pv 0) (pv 2) rfl)
        (pss_cons (ps_expr (pe_meth (pv 0) T.t_Doer.cl T.M_Doer_give G_Doer_give (hr.mono (by omega)) T.B_Doer_give .nil pass0 (pa_cons (pe_fld (pv 1) rfl) (pa_cons (pe_ix ix_tup (pv 3) pe_int (fun _ _ => rfl)) pa_nil))))
        (pss_one (ps_ret (pe_meth (pv 0) T.t_Doer.cl T.M_Doer_do_all GN_Doer_do_all (hr.mono (by omega)) T.B_Doer_do_all .nil pass0 (pa_cons (pe_fld (pv 1) rfl) pa_nil))))))))))))
    case g2 =>
      refine FnOk.mono (j := n + 4 + 1) ?_ (by omega)
      refine T.F_Doer_do_part.ok sc_Doer_do_part (fun vs H Q E h => by first | (exact lift_len (fun ds W Q h => by first | (obtain ⟨rfl, _⟩ := h; rfl) | (obtain ⟨_, rfl, _⟩ := h; rfl) | (obtain ⟨_, _, rfl, _⟩ := h; rfl) | (obtain ⟨_, _, _, rfl, _⟩ := h; rfl) | (obtain ⟨_, _, _, _, rfl, _⟩ := h; rfl) | (obtain ⟨_, _, _, _, _, rfl, _⟩ := h; rfl) | (obtain ⟨_, _, _, _, _, _, rfl, _⟩ := h; rfl) | (obtain ⟨_, _, _, _, _, _, _, rfl, _⟩ := h; rfl) | (obtain ⟨_, _, _, _, _, _, _, _, rfl, _⟩ := h; rfl) | (obtain ⟨_, _, _, _, _, _, _, _, _, rfl, _⟩ := h; rfl) | (obtain ⟨_, _, _, _, _, _, _, _, _, _, rfl, _⟩ := h; rfl)) h) | (obtain ⟨rfl, _⟩ := h; rfl) | (obtain ⟨_, rfl, _⟩ := h; rfl) | (obtain ⟨_, _, rfl, _⟩ := h; rfl) | (obtain ⟨_, _, _, rfl, _⟩ := h; rfl) | (obtain ⟨_, _, _, _, rfl, _⟩ := h; rfl) | (obtain ⟨_, _, _, _, _, rfl, _⟩ := h; rfl) | (obtain ⟨_, _, _, _, _, _, rfl, _⟩ := h; rfl) | (obtain ⟨_, _, _, _, _, _, _, rfl, _⟩ := h; rfl) | (obtain ⟨_, _, _, _, _, _, _, _, rfl, _⟩ := h; rfl) | (obtain ⟨_, _, _, _, _, _, _, _, _, rfl, _⟩ := h; rfl) | (obtain ⟨_, _, _, _, _, _, _, _, _, _, rfl, _⟩ := h; rfl)) (fun cdv A outer s H vs Q E hr h => ⟨t_Doer_do_part n d, ?_, pure_Doer_do_part T.t_Parts T.t_PW T.t_Doer h⟩)
      exact (pss_cons (ps_if (pt_val (pe_callB call_isi (by rfl) T.b_isinstance (by decide +kernel) (pa_cons (pv 1) (pa_cons (pe_glob rfl T.g_If rfl) pa_nil)))) (pss_cons (ps_if (pt_cmpR op_ne (pe_meth (pv 0) T.t_Doer.cl T.M_Doer_look G_Doer_look (hr.mono (by omega)) T.B_Doer_look .nil pass0 (pa_cons (pe_fld (pv 1) rfl) pa_nil)) pe_int (nomark _)) (pss_one (ps_ret (pe_meth (pv 0) T.t_Doer.cl T.M_Doer_do_all GN_Doer_do_all (hr.mono (by omega)) T.B_Doer_do_all .nil pass0 (pa_cons (pe_fld (pv 1) rfl) pa_nil)))) pss_nil)
        (pss_one (ps_ret (pe_meth (pv 0) T.t_Doer.cl T.M_Doer_do_all GN_Doer_do_all (hr.mono (by omega)) T.B_Doer_do_all .nil pass0 (pa_cons (pe_fld (pv 1) rfl) pa_nil))))) pss_nil)
        (pss_cons (ps_if (pt_val (pe_callB call_isi (by rfl) T.b_isinstance (by decide +kernel) (pa_cons (pv 1) (pa_cons (pe_glob rfl T.g_Either rfl) pa_nil)))) (pss_one (ps_ret (pe_meth (pv 0) T.t_Doer.cl T.M_Doer_do_either GN_Doer_do_either (hr.mono (by omega)) T.B_Doer_do_either .nil pass0 (pa_cons (pv 1) pa_nil)))) pss_nil)
        (pss_cons (ps_if (pt_val (pe_callB call_isi (by rfl) T.b_isinstance (by decide +kernel) (pa_cons (pv 1) (pa_cons (pe_glob rfl T.g_Try rfl) pa_nil)))) (pss_one (ps_ret (pe_meth (pv 0) T.t_Doer.cl T.M_Doer_do_try GN_Doer_do_try (hr.mono (by omega)) T.B_Doer_do_try .nil pass0 (pa_cons (pv 1) pa_nil)))) pss_nil)
        (pss_cons (ps_if (pt_val (pe_callB call_isi (by rfl) T.b_isinstance (by decide +kernel) (pa_cons (pv 1) (pa_cons (pe_glob rfl T.g_Throw rfl) pa_nil)))) (pss_one (ps_ret (pe_tup (pa_cons pe_str (pa_cons (pe_fld (pv 1) rfl) (pa_cons (pe_meth (pv 0) T.t_Doer.cl T.M_Doer_look G_Doer_look (hr.mono (by omega)) T.B_Doer_look .nil pass0 (pa_cons (pe_fld (pv 1) rfl) pa_nil)) pa_nil)))))) pss_nil)
        (pss_cons (ps_if (pt_val (pe_callB call_isi (by rfl) T.b_isinstance (by decide +kernel) (pa_cons (pv 1) (pa_cons (pe_glob rfl T.g_Wait rfl) pa_nil)))) (pss_one (ps_ret (pe_tup (pa_cons pe_str pa_nil)))) pss_nil)
        (pss_cons (ps_expr (pe_meth (pv 0) T.t_Doer.cl T.M_Doer_do_plain G_Doer_do_plain (hr.mono (by omega)) T.B_Doer_do_plain .nil pass0 (pa_cons (pv 1) pa_nil)))
        (pss_one (ps_ret pe_non))))))))
    case g3 =>
      refine FnOk.mono (j := n + 4 + 1) ?_ (by omega)
      refine T.F_Doer_do_all.ok sc_Doer_do_all (fun vs H Q E h => by first | (exact lift_len (fun ds W Q h => by first | (obtain ⟨rfl, _⟩ := h; rfl) | (obtain ⟨_, rfl, _⟩ := h; rfl) | (obtain ⟨_, _, rfl, _⟩ := h; rfl) | (obtain ⟨_, _, _, rfl, _⟩ := h; rfl) | (obtain ⟨_, _, _, _, rfl, _⟩ := h; rfl) | (obtain ⟨_, _, _, _, _, rfl, _⟩ := h; rfl) | (obtain ⟨_, _, _, _, _, _, rfl, _⟩ := h; rfl) | (obtain ⟨_, _, _, _, _, _, _, rfl, _⟩ := h; rfl) | (obtain ⟨_, _, _, _, _, _, _, _, rfl, _⟩ := h; rfl) | (obtain ⟨_, _, _, _, _, _, _, _, _, rfl, _⟩ := h; rfl) | (obtain ⟨_, _, _, _, _, _, _, _, _, _, rfl, _⟩ := h; rfl)) h) | (obtain ⟨rfl, _⟩ := h; rfl) | (obtain ⟨_, rfl, _⟩ := h; rfl) | (obtain ⟨_, _, rfl, _⟩ := h; rfl) | (obtain ⟨_, _, _, rfl, _⟩ := h; rfl) | (obtain ⟨_, _, _, _, rfl, _⟩ := h; rfl) | (obtain ⟨_, _, _, _, _, rfl, _⟩ := h; rfl) | (obtain ⟨_, _, _, _, _, _, rfl, _⟩ := h; rfl) | (obtain ⟨_, _, _, _, _, _, _, rfl, _⟩ := h; rfl) | (obtain ⟨_, _, _, _, _, _, _, _, rfl, _⟩ := h; rfl) | (obtain ⟨_, _, _, _, _, _, _, _, _, rfl, _⟩ := h; rfl) | (obtain ⟨_, _, _, _, _, _, _, _, _, _, rfl, _⟩ := h; rfl)) (fun cdv A outer s H vs Q E hr h => ⟨t_Doer_do_all n d, ?_, pure_Doer_do_all T.t_Doer h⟩)
      exact (pss_cons (ps_for PassesOwn.never rfl (pi_list (pv 1)) (pg_name (i := 2) sc_Doer_do_all.nd rfl (Or.inl rfl)) (pss_cons (ps_set (i := 3) sc_Doer_do_all.nd rfl (Or.inl rfl) (pe_meth (pv 0) T.t_Doer.cl T.M_Doer_do_part GN_Doer_do_part (hr.mono (by omega)) T.B_Doer_do_part .nil pass0 (pa_cons (pv 2) pa_nil)))
        (pss_one (ps_if (pt_cmpR op_notN (pv 3) pe_non (nomark _)) (pss_one (ps_ret (pv 3))) pss_nil))))
        (pss_one (ps_ret pe_non)))
theorem ok_Doer_do_all (T : Txt d mg z) : FnOk P w d.K mg base CX0 (64) z.f_Doer_do_all z.d_Doer_do_all ["self", "parts"] (sp_Doer_do_all d) := (okG_Doer_do_either T 60).2.2.2
theorem ok_alone (T : Txt d mg z) : FnOk P w d.K mg base CX0 65 z.f_alone z.d_alone ["deed", "boxes", "slots"] (sp_alone d) := by
  have G_Doer_init := ok_Doer_init (P := P) (w := w) (base := base) T
  have G_Doer_do_all := ok_Doer_do_all (P := P) (w := w) (base := base) T
  have G_Log_wrote := ok_Log_wrote (P := P) (w := w) (base := base) T
  have G_Log_saw := ok_Log_saw (P := P) (w := w) (base := base) T
  refine T.F_alone.ok sc_alone (fun vs H Q E h => by first | (exact lift_len (fun ds W Q h => by first | (obtain ⟨rfl, _⟩ := h; rfl) | (obtain ⟨_, rfl, _⟩ := h; rfl) | (obtain ⟨_, _, rfl, _⟩ := h; rfl) | (obtain ⟨_, _, _, rfl, _⟩ := h; rfl) | (obtain ⟨_, _, _, _, rfl, _⟩ := h; rfl) | (obtain ⟨_, _, _, _, _, rfl, _⟩ := h; rfl) | (obtain ⟨_, _, _, _, _, _, rfl, _⟩ := h; rfl) | (obtain ⟨_, _, _, _, _, _, _, rfl, _⟩ := h; rfl) | (obtain ⟨_, _, _, _, _, _, _, _, rfl, _⟩ := h; rfl) | (obtain ⟨_, _, _, _, _, _, _, _, _, rfl, _⟩ := h; rfl) | (obtain ⟨_, _, _, _, _, _, _, _, _, _, rfl, _⟩ := h; rfl)) h) | (obtain ⟨rfl, _⟩ := h; rfl) | (obtain ⟨_, rfl, _⟩ := h; rfl) | (obtain ⟨_, _, rfl, _⟩ := h; rfl) | (obtain ⟨_, _, _, rfl, _⟩ := h; rfl) | (obtain ⟨_, _, _, _, rfl, _⟩ := h; rfl) | (obtain ⟨_, _, _, _, _, rfl, _⟩ := h; rfl) | (obtain ⟨_, _, _, _, _, _, rfl, _⟩ := h; rfl) | (obtain ⟨_, _, _, _, _, _, _, rfl, _⟩ := h; rfl) | (obtain ⟨_, _, _, _, _, _, _, _, rfl, _⟩ := h; rfl) | (obtain ⟨_, _, _, _, _, _, _, _, _, rfl, _⟩ := h; rfl) | (obtain ⟨_, _, _, _, _, _, _, _, _, _, rfl, _⟩ := h; rfl)) (fun cdv A outer s H vs Q E hr h => ⟨t_alone d, ?_, pure_alone T.t_Doer h⟩)
  exact (pss_cons (ps_set (i := 3) sc_alone.nd rfl (Or.inl rfl) (pe_make T.K_Doer G_Doer_init (hr.mono (by omega)) rfl T.g_Doer T.B_Doer_init .nil pass0 (pa_cons (pv 1) (pa_cons (pv 2) pa_nil))))
      (pss_cons (ps_set (i := 4) sc_alone.nd rfl (Or.inl rfl) (pe_meth (pv 3) T.t_Doer.cl T.M_Doer_do_all G_Doer_do_all (hr.mono (by omega)) T.B_Doer_do_all .nil pass0 (pa_cons (pv 0) pa_nil)))
      (pss_cons (ps_if (pt_cmpR op_isN (pv 4) pe_non (nomark _)) (pss_one (ps_ret (pe_tup (pa_cons (pe_tup (pa_cons pe_str pa_nil)) (pa_cons (pe_meth0 (pe_fld (pv 3) rfl) T.t_Log.cl T.M_Log_saw G_Log_saw (hr.mono (by omega)) T.B_Log_saw .nil pass0) (pa_cons (pe_meth0 (pe_fld (pv 3) rfl) T.t_Log.cl T.M_Log_wrote G_Log_wrote (hr.mono (by omega)) T.B_Log_wrote .nil pass0) (pa_cons (pe_callTy call_list_of (by rfl) T.b_list (by decide +kernel) (pa_cons (pe_fld (pv 3) rfl) pa_nil)) pa_nil))))))) pss_nil)
      (pss_one (ps_ret (pe_tup (pa_cons (pv 4) (pa_cons (pe_meth0 (pe_fld (pv 3) rfl) T.t_Log.cl T.M_Log_saw G_Log_saw (hr.mono (by omega)) T.B_Log_saw .nil pass0) (pa_cons (pe_lst pa_nil) (pa_cons (pe_callTy call_list_of (by rfl) T.b_list (by decide +kernel) (pa_cons (pv 2) pa_nil)) pa_nil))))))))))
theorem ok_l_mixed (T : Txt d mg z) : FnOk P w d.K mg base CX0 1 z.f_l_mixed z.d_l_mixed ["_law_cell"] (sp_l_mixed d) := by
  refine T.F_l_mixed.ok sc_l_mixed (fun vs H Q E h => by first | (exact lift_len (fun ds W Q h => by first | (obtain ⟨rfl, _⟩ := h; rfl) | (obtain ⟨_, rfl, _⟩ := h; rfl) | (obtain ⟨_, _, rfl, _⟩ := h; rfl) | (obtain ⟨_, _, _, rfl, _⟩ := h; rfl) | (obtain ⟨_, _, _, _, rfl, _⟩ := h; rfl) | (obtain ⟨_, _, _, _, _, rfl, _⟩ := h; rfl) | (obtain ⟨_, _, _, _, _, _, rfl, _⟩ := h; rfl) | (obtain ⟨_, _, _, _, _, _, _, rfl, _⟩ := h; rfl) | (obtain ⟨_, _, _, _, _, _, _, _, rfl, _⟩ := h; rfl) | (obtain ⟨_, _, _, _, _, _, _, _, _, rfl, _⟩ := h; rfl) | (obtain ⟨_, _, _, _, _, _, _, _, _, _, rfl, _⟩ := h; rfl)) h) | (obtain ⟨rfl, _⟩ := h; rfl) | (obtain ⟨_, rfl, _⟩ := h; rfl) | (obtain ⟨_, _, rfl, _⟩ := h; rfl) | (obtain ⟨_, _, _, rfl, _⟩ := h; rfl) | (obtain ⟨_, _, _, _, rfl, _⟩ := h; rfl) | (obtain ⟨_, _, _, _, _, rfl, _⟩ := h; rfl) | (obtain ⟨_, _, _, _, _, _, rfl, _⟩ := h; rfl) | (obtain ⟨_, _, _, _, _, _, _, rfl, _⟩ := h; rfl) | (obtain ⟨_, _, _, _, _, _, _, _, rfl, _⟩ := h; rfl) | (obtain ⟨_, _, _, _, _, _, _, _, _, rfl, _⟩ := h; rfl) | (obtain ⟨_, _, _, _, _, _, _, _, _, _, rfl, _⟩ := h; rfl)) (fun cdv A outer s H vs Q E hr h => ⟨t_l_mixed d, ?_, pure_l_mixed  h⟩)
  exact (pss_one (ps_ret (pe_op op_mod (pe_op op_mul (pv 0) pe_int) pe_int)))
theorem ok_l_wide (T : Txt d mg z) : FnOk P w d.K mg base CX0 1 z.f_l_wide z.d_l_wide ["_law_cell"] (sp_l_wide d) := by
  refine T.F_l_wide.ok sc_l_wide (fun vs H Q E h => by first | (exact lift_len (fun ds W Q h => by first | (obtain ⟨rfl, _⟩ := h; rfl) | (obtain ⟨_, rfl, _⟩ := h; rfl) | (obtain ⟨_, _, rfl, _⟩ := h; rfl) | (obtain ⟨_, _, _, rfl, _⟩ := h; rfl) | (obtain ⟨_, _, _, _, rfl, _⟩ := h; rfl) | (obtain ⟨_, _, _, _, _, rfl, _⟩ := h; rfl) | (obtain ⟨_, _, _, _, _, _, rfl, _⟩ := h; rfl) | (obtain ⟨_, _, _, _, _, _, _, rfl, _⟩ := h; rfl) | (obtain ⟨_, _, _, _, _, _, _, _, rfl, _⟩ := h; rfl) | (obtain ⟨_, _, _, _, _, _, _, _, _, rfl, _⟩ := h; rfl) | (obtain ⟨_, _, _, _, _, _, _, _, _, _, rfl, _⟩ := h; rfl)) h) | (obtain ⟨rfl, _⟩ := h; rfl) | (obtain ⟨_, rfl, _⟩ := h; rfl) | (obtain ⟨_, _, rfl, _⟩ := h; rfl) | (obtain ⟨_, _, _, rfl, _⟩ := h; rfl) | (obtain ⟨_, _, _, _, rfl, _⟩ := h; rfl) | (obtain ⟨_, _, _, _, _, rfl, _⟩ := h; rfl) | (obtain ⟨_, _, _, _, _, _, rfl, _⟩ := h; rfl) | (obtain ⟨_, _, _, _, _, _, _, rfl, _⟩ := h; rfl) | (obtain ⟨_, _, _, _, _, _, _, _, rfl, _⟩ := h; rfl) | (obtain ⟨_, _, _, _, _, _, _, _, _, rfl, _⟩ := h; rfl) | (obtain ⟨_, _, _, _, _, _, _, _, _, _, rfl, _⟩ := h; rfl)) (fun cdv A outer s H vs Q E hr h => ⟨t_l_wide d, ?_, pure_l_wide  h⟩)
  exact (pss_one (ps_ret (pe_op op_mod (pe_op op_mul (pv 0) pe_int) (pe_op op_pow pe_int pe_int))))
theorem ok_l_names (T : Txt d mg z) : FnOk P w d.K mg base CX0 2 z.f_l_names z.d_l_names ["_law_cell"] (sp_l_names d) := by
  have G_l_mixed := ok_l_mixed (P := P) (w := w) (base := base) T
  refine T.F_l_names.ok sc_l_names (fun vs H Q E h => by first | (exact lift_len (fun ds W Q h => by first | (obtain ⟨rfl, _⟩ := h; rfl) | (obtain ⟨_, rfl, _⟩ := h; rfl) | (obtain ⟨_, _, rfl, _⟩ := h; rfl) | (obtain ⟨_, _, _, rfl, _⟩ := h; rfl) | (obtain ⟨_, _, _, _, rfl, _⟩ := h; rfl) | (obtain ⟨_, _, _, _, _, rfl, _⟩ := h; rfl) | (obtain ⟨_, _, _, _, _, _, rfl, _⟩ := h; rfl) | (obtain ⟨_, _, _, _, _, _, _, rfl, _⟩ := h; rfl) | (obtain ⟨_, _, _, _, _, _, _, _, rfl, _⟩ := h; rfl) | (obtain ⟨_, _, _, _, _, _, _, _, _, rfl, _⟩ := h; rfl) | (obtain ⟨_, _, _, _, _, _, _, _, _, _, rfl, _⟩ := h; rfl)) h) | (obtain ⟨rfl, _⟩ := h; rfl) | (obtain ⟨_, rfl, _⟩ := h; rfl) | (obtain ⟨_, _, rfl, _⟩ := h; rfl) | (obtain ⟨_, _, _, rfl, _⟩ := h; rfl) | (obtain ⟨_, _, _, _, rfl, _⟩ := h; rfl) | (obtain ⟨_, _, _, _, _, rfl, _⟩ := h; rfl) | (obtain ⟨_, _, _, _, _, _, rfl, _⟩ := h; rfl) | (obtain ⟨_, _, _, _, _, _, _, rfl, _⟩ := h; rfl) | (obtain ⟨_, _, _, _, _, _, _, _, rfl, _⟩ := h; rfl) | (obtain ⟨_, _, _, _, _, _, _, _, _, rfl, _⟩ := h; rfl) | (obtain ⟨_, _, _, _, _, _, _, _, _, _, rfl, _⟩ := h; rfl)) (fun cdv A outer s H vs Q E hr h => ⟨t_l_names d, ?_, pure_l_names  h⟩)
  exact (pss_cons (ps_set (i := 1) sc_l_names.nd rfl (Or.inl rfl) pe_str)
      (pss_cons (ps_set (i := 2) sc_l_names.nd rfl (Or.inl rfl) (pe_call G_l_mixed (hr.mono (by omega)) rfl T.m_l_mixed T.F_l_mixed.kp T.B_l_mixed .nil pass0 (pa_cons (pv 0) pa_nil)))
      (pss_cons (ps_set (i := 3) sc_l_names.nd rfl (Or.inl rfl) (pe_op op_add pe_int (pe_op op_mod (pv 2) pe_int)))
      (pss_cons (ps_set (i := 4) sc_l_names.nd rfl (Or.inl rfl) (pe_op op_mod (pe_op op_fdiv (pv 2) pe_int) (pv 3)))
      (pss_cons (ps_set (i := 5) sc_l_names.nd rfl (Or.inl rfl) (pe_lst pa_nil))
      (pss_cons (ps_for PassesOwn.never rfl (pi_range1 rfl T.b_range (pa_cons pe_int pa_nil)) (pg_name (i := 6) sc_l_names.nd rfl (Or.inl rfl)) (pss_cons (ps_set (i := 7) sc_l_names.nd rfl (Or.inl rfl) pe_str)
      (pss_cons (ps_for PassesOwn.never rfl (pi_range1 rfl T.b_range (pa_cons (pv 3) pa_nil)) (pg_name (i := 8) sc_l_names.nd rfl (Or.inl rfl)) (pss_cons (ps_set (i := 9) sc_l_names.nd rfl (Or.inl rfl) (pe_op op_add (pe_op op_fdiv (pe_op op_fdiv (pv 2) pe_int) (pe_op op_add (pe_op op_mul (pv 8) (pv 8)) pe_int)) (pv 8)))
      (pss_cons (ps_if (pt_cmpR op_eq (pv 8) (pv 4) (nomark _)) (pss_one (ps_set (i := 9) sc_l_names.nd rfl (Or.inl rfl) (pe_op op_add (pv 9) (pv 6)))) pss_nil)
      (pss_one (ps_set (i := 7) sc_l_names.nd rfl (Or.inl rfl) (pe_op op_add_str (pv 7) (pe_ix ix_str (pv 1) (pe_op op_mod (pv 9) pe_int) (fun _ _ => rfl))))))))
      (pss_one (ps_expr (pe_bm PySem.F.plainAttrs_list PySem.F.slot_list_append PySem.F.type_list_append mt_append (pv 5) (pa_cons (pv 7) pa_nil)))))))
      (pss_one (ps_ret (pv 5)))))))))
theorem okG_l_alike (T : Txt d mg z) : (n : Nat) → FnOk P w d.K mg base CX0 (n + 0) z.f_l_alike z.d_l_alike ["_law_found", "_law_due"] (spN_l_alike n d)
  | 0 => fnok_no fun vs H Q E h => no_l_alike h
  | n + 1 => by
    have GG := okG_l_alike T n
    have GN_l_alike := GG
    refine FnOk.mono (j := n + 0 + 1) ?_ (by omega)
    refine T.F_l_alike.ok sc_l_alike (fun vs H Q E h => by first | (exact lift_len (fun ds W Q h => by first | (obtain ⟨rfl, _⟩ := h; rfl) | (obtain ⟨_, rfl, _⟩ := h; rfl) | (obtain ⟨_, _, rfl, _⟩ := h; rfl) | (obtain ⟨_, _, _, rfl, _⟩ := h; rfl) | (obtain ⟨_, _, _, _, rfl, _⟩ := h; rfl) | (obtain ⟨_, _, _, _, _, rfl, _⟩ := h; rfl) | (obtain ⟨_, _, _, _, _, _, rfl, _⟩ := h; rfl) | (obtain ⟨_, _, _, _, _, _, _, rfl, _⟩ := h; rfl) | (obtain ⟨_, _, _, _, _, _, _, _, rfl, _⟩ := h; rfl) | (obtain ⟨_, _, _, _, _, _, _, _, _, rfl, _⟩ := h; rfl) | (obtain ⟨_, _, _, _, _, _, _, _, _, _, rfl, _⟩ := h; rfl)) h) | (obtain ⟨rfl, _⟩ := h; rfl) | (obtain ⟨_, rfl, _⟩ := h; rfl) | (obtain ⟨_, _, rfl, _⟩ := h; rfl) | (obtain ⟨_, _, _, rfl, _⟩ := h; rfl) | (obtain ⟨_, _, _, _, rfl, _⟩ := h; rfl) | (obtain ⟨_, _, _, _, _, rfl, _⟩ := h; rfl) | (obtain ⟨_, _, _, _, _, _, rfl, _⟩ := h; rfl) | (obtain ⟨_, _, _, _, _, _, _, rfl, _⟩ := h; rfl) | (obtain ⟨_, _, _, _, _, _, _, _, rfl, _⟩ := h; rfl) | (obtain ⟨_, _, _, _, _, _, _, _, _, rfl, _⟩ := h; rfl) | (obtain ⟨_, _, _, _, _, _, _, _, _, _, rfl, _⟩ := h; rfl)) (fun cdv A outer s H vs Q E hr h => ⟨t_l_alike n d, ?_, pure_l_alike  h⟩)
    exact (pss_cons (ps_if (pt_val (pe_callB call_isi (by rfl) T.b_isinstance (by decide +kernel) (pa_cons (pv 1) (pa_cons (pe_bltn (v := .ty "int") (by rfl) T.b_int (by decide +kernel) rfl) pa_nil)))) (pss_one (ps_ret (pe_and (pe_callB call_isi (by rfl) T.b_isinstance (by decide +kernel) (pa_cons (pv 0) (pa_cons (pe_bltn (v := .ty "int") (by rfl) T.b_int (by decide +kernel) rfl) pa_nil))) (pe_and (pe_not (pe_callB call_isi (by rfl) T.b_isinstance (by decide +kernel) (pa_cons (pv 0) (pa_cons (pe_bltn (v := .ty "bool") (by rfl) T.b_bool (by decide +kernel) rfl) pa_nil)))) (pe_one (pe_cmpR op_eq (pv 0) (pv 1) (nomark _))))))) pss_nil)
        (pss_cons (ps_if (pt_val (pe_callB call_isi (by rfl) T.b_isinstance (by decide +kernel) (pa_cons (pv 1) (pa_cons (pe_bltn (v := .ty "str") (by rfl) T.b_str (by decide +kernel) rfl) pa_nil)))) (pss_one (ps_ret (pe_and (pe_callB call_isi (by rfl) T.b_isinstance (by decide +kernel) (pa_cons (pv 0) (pa_cons (pe_bltn (v := .ty "str") (by rfl) T.b_str (by decide +kernel) rfl) pa_nil))) (pe_one (pe_cmpR op_eq (pv 0) (pv 1) (nomark _)))))) pss_nil)
        (pss_cons (ps_if (pt_val (pe_callB call_isi (by rfl) T.b_isinstance (by decide +kernel) (pa_cons (pv 1) (pa_cons (pe_bltn (v := .ty "tuple") (by rfl) T.b_tuple (by decide +kernel) rfl) pa_nil)))) (pss_one (ps_if (pt_not (pt_val (pe_callB call_isi (by rfl) T.b_isinstance (by decide +kernel) (pa_cons (pv 0) (pa_cons (pe_bltn (v := .ty "tuple") (by rfl) T.b_tuple (by decide +kernel) rfl) pa_nil))))) (pss_one (ps_ret pe_bl)) pss_nil)) (pss_one (ps_if (pt_not (pt_val (pe_callB call_isi (by rfl) T.b_isinstance (by decide +kernel) (pa_cons (pv 0) (pa_cons (pe_bltn (v := .ty "list") (by rfl) T.b_list (by decide +kernel) rfl) pa_nil))))) (pss_one (ps_ret pe_bl)) pss_nil)))
        (pss_cons (ps_if (pt_cmpR op_ne (pe_callB call_len_seq (by rfl) T.b_len (by decide +kernel) (pa_cons (pv 0) pa_nil)) (pe_callB call_len_seq (by rfl) T.b_len (by decide +kernel) (pa_cons (pv 1) pa_nil)) (nomark _)) (pss_one (ps_ret pe_bl)) pss_nil)
        (pss_cons (ps_for PassesOwn.never rfl (pi_range1 rfl T.b_range (pa_cons (pe_callB call_len_seq (by rfl) T.b_len (by decide +kernel) (pa_cons (pv 1) pa_nil)) pa_nil)) (pg_name (i := 2) sc_l_alike.nd rfl (Or.inl rfl)) (pss_one (ps_if (pt_not (pt_val (pe_call GN_l_alike (hr.mono (by omega)) rfl T.m_l_alike T.F_l_alike.kp T.B_l_alike .nil pass0 (pa_cons (pe_ix ix_seq (pv 0) (pv 2) (fun _ _ => rfl)) (pa_cons (pe_ix ix_seq (pv 1) (pv 2) (fun _ _ => rfl)) pa_nil))))) (pss_one (ps_ret pe_bl)) pss_nil)))
        (pss_one (ps_ret pe_bl)))))))
theorem ok_l_alike (T : Txt d mg z) : FnOk P w d.K mg base CX0 (8) z.f_l_alike z.d_l_alike ["_law_found", "_law_due"] (sp_l_alike d) := okG_l_alike T 8
theorem ok_l_plain (T : Txt d mg z) : FnOk P w d.K mg base CX0 2 z.f_l_plain z.d_l_plain ["_law_mixed_here", "_law_cell"] (sp_l_plain d) := by
  have G_l_wide := ok_l_wide (P := P) (w := w) (base := base) T
  refine T.F_l_plain.ok sc_l_plain (fun vs H Q E h => by first | (exact lift_len (fun ds W Q h => by first | (obtain ⟨rfl, _⟩ := h; rfl) | (obtain ⟨_, rfl, _⟩ := h; rfl) | (obtain ⟨_, _, rfl, _⟩ := h; rfl) | (obtain ⟨_, _, _, rfl, _⟩ := h; rfl) | (obtain ⟨_, _, _, _, rfl, _⟩ := h; rfl) | (obtain ⟨_, _, _, _, _, rfl, _⟩ := h; rfl) | (obtain ⟨_, _, _, _, _, _, rfl, _⟩ := h; rfl) | (obtain ⟨_, _, _, _, _, _, _, rfl, _⟩ := h; rfl) | (obtain ⟨_, _, _, _, _, _, _, _, rfl, _⟩ := h; rfl) | (obtain ⟨_, _, _, _, _, _, _, _, _, rfl, _⟩ := h; rfl) | (obtain ⟨_, _, _, _, _, _, _, _, _, _, rfl, _⟩ := h; rfl)) h) | (obtain ⟨rfl, _⟩ := h; rfl) | (obtain ⟨_, rfl, _⟩ := h; rfl) | (obtain ⟨_, _, rfl, _⟩ := h; rfl) | (obtain ⟨_, _, _, rfl, _⟩ := h; rfl) | (obtain ⟨_, _, _, _, rfl, _⟩ := h; rfl) | (obtain ⟨_, _, _, _, _, rfl, _⟩ := h; rfl) | (obtain ⟨_, _, _, _, _, _, rfl, _⟩ := h; rfl) | (obtain ⟨_, _, _, _, _, _, _, rfl, _⟩ := h; rfl) | (obtain ⟨_, _, _, _, _, _, _, _, rfl, _⟩ := h; rfl) | (obtain ⟨_, _, _, _, _, _, _, _, _, rfl, _⟩ := h; rfl) | (obtain ⟨_, _, _, _, _, _, _, _, _, _, rfl, _⟩ := h; rfl)) (fun cdv A outer s H vs Q E hr h => ⟨t_l_plain d, ?_, pure_l_plain  h⟩)
  exact (pss_cons (ps_set (i := 2) sc_l_plain.nd rfl (Or.inl rfl) (pe_slice sl_str pe_str po_none (po_some (pe_ix ix_list (pe_lst (pa_cons pe_int (pa_cons pe_int (pa_cons pe_int pa_nil)))) (pe_op op_mod (pv 0) pe_int) (fun _ _ => rfl)))))
      (pss_cons (ps_set (i := 3) sc_l_plain.nd rfl (Or.inl rfl) (pe_callB call_len_str (by rfl) T.b_len (by decide +kernel) (pa_cons (pv 2) pa_nil)))
      (pss_cons (ps_set (i := 4) sc_l_plain.nd rfl (Or.inl rfl) (pe_op op_fdiv (pv 0) pe_int))
      (pss_cons (ps_set (i := 5) sc_l_plain.nd rfl (Or.inl rfl) (pe_ix ix_str (pv 2) (pe_op op_mod (pv 4) (pv 3)) (fun _ _ => rfl)))
      (pss_cons (ps_set (i := 6) sc_l_plain.nd rfl (Or.inl rfl) (pe_ix ix_str (pv 2) (pe_op op_mod (pe_op op_fdiv (pv 4) (pv 3)) (pv 3)) (fun _ _ => rfl)))
      (pss_cons (ps_set (i := 7) sc_l_plain.nd rfl (Or.inl rfl) (pe_ix ix_str (pv 2) (pe_op op_mod (pe_op op_fdiv (pe_op op_fdiv (pv 4) (pv 3)) (pv 3)) (pv 3)) (fun _ _ => rfl)))
      (pss_cons (ps_set (i := 8) sc_l_plain.nd rfl (Or.inl rfl) (pe_op op_mod (pe_op op_fdiv (pv 0) pe_int) pe_int))
      (pss_cons (ps_if (pt_cmpR op_eq (pv 8) pe_int (nomark _)) (pss_one (ps_ret (pe_lst (pa_cons (pe_tup (pa_cons pe_str (pa_cons (pv 5) (pa_cons (pe_call G_l_wide (hr.mono (by omega)) rfl T.m_l_wide T.F_l_wide.kp T.B_l_wide .nil pass0 (pa_cons (pv 1) pa_nil)) pa_nil)))) pa_nil)))) pss_nil)
      (pss_cons (ps_if (pt_cmpR o_lt (pv 8) pe_int (nomark _)) (pss_one (ps_ret (pe_lst (pa_cons (pe_tup (pa_cons pe_str (pa_cons (pv 5) (pa_cons (pe_op op_mod (pe_op op_fdiv (pv 4) pe_int) pe_int) pa_nil)))) pa_nil)))) pss_nil)
      (pss_cons (ps_if (pt_cmpR o_lt (pv 8) pe_int (nomark _)) (pss_cons (ps_set (i := 9) sc_l_plain.nd rfl (Or.inl rfl) (pe_ix ix_list (pe_lst (pa_cons pe_str (pa_cons pe_str (pa_cons pe_str (pa_cons pe_str (pa_cons pe_str pa_nil)))))) (pe_op op_mod (pe_op op_fdiv (pv 4) pe_int) pe_int) (fun _ _ => rfl)))
      (pss_one (ps_ret (pe_lst (pa_cons (pe_tup (pa_cons pe_str (pa_cons (pv 9) (pa_cons (pv 5) (pa_cons (pv 6) (pa_cons (pv 7) pa_nil)))))) pa_nil))))) pss_nil)
      (pss_cons (ps_if (pt_cmpR o_lt (pv 8) pe_int (nomark _)) (pss_one (ps_ret (pe_lst (pa_cons (pe_tup (pa_cons pe_str (pa_cons (pv 5) (pa_cons (pv 6) pa_nil)))) pa_nil)))) pss_nil)
      (pss_cons (ps_if (pt_cmpR o_lt (pv 8) pe_int (nomark _)) (pss_one (ps_ret (pe_lst (pa_cons (pe_tup (pa_cons pe_str (pa_cons (pv 5) (pa_cons (pv 6) pa_nil)))) pa_nil)))) pss_nil)
      (pss_cons (ps_set (i := 9) sc_l_plain.nd rfl (Or.inl rfl) (pe_ix ix_list (pe_lst (pa_cons pe_str (pa_cons pe_str (pa_cons pe_str pa_nil)))) (pe_op op_mod (pe_op op_fdiv (pv 4) pe_int) pe_int) (fun _ _ => rfl)))
      (pss_cons (ps_set (i := 10) sc_l_plain.nd rfl (Or.inl rfl) (pe_lst (pa_cons (pe_tup (pa_cons pe_str (pa_cons (pv 5) (pa_cons (pe_op op_mod (pe_op op_fdiv (pv 4) pe_int) pe_int) pa_nil)))) (pa_cons (pe_tup (pa_cons pe_str (pa_cons (pv 6) (pa_cons (pv 5) pa_nil)))) pa_nil))))
      (pss_one (ps_ret (pe_op op_catQ (pv 10) (pe_lst (pa_cons (pe_tup (pa_cons pe_str (pa_cons (pv 9) (pa_cons (pv 6) (pa_cons (pv 6) (pa_cons (pv 7) pa_nil)))))) (pa_cons (pe_tup (pa_cons pe_str (pa_cons (pv 5) (pa_cons (pv 6) pa_nil)))) pa_nil))))))))))))))))))))
theorem ok_l_sided (T : Txt d mg z) : FnOk P w d.K mg base CX0 1 z.f_l_sided z.d_l_sided ["_law_mixed_here", "_law_one", "_law_other", "_law_names_here"] (sp_l_sided d) := by
  refine T.F_l_sided.ok sc_l_sided (fun vs H Q E h => by first | (exact lift_len (fun ds W Q h => by first | (obtain ⟨rfl, _⟩ := h; rfl) | (obtain ⟨_, rfl, _⟩ := h; rfl) | (obtain ⟨_, _, rfl, _⟩ := h; rfl) | (obtain ⟨_, _, _, rfl, _⟩ := h; rfl) | (obtain ⟨_, _, _, _, rfl, _⟩ := h; rfl) | (obtain ⟨_, _, _, _, _, rfl, _⟩ := h; rfl) | (obtain ⟨_, _, _, _, _, _, rfl, _⟩ := h; rfl) | (obtain ⟨_, _, _, _, _, _, _, rfl, _⟩ := h; rfl) | (obtain ⟨_, _, _, _, _, _, _, _, rfl, _⟩ := h; rfl) | (obtain ⟨_, _, _, _, _, _, _, _, _, rfl, _⟩ := h; rfl) | (obtain ⟨_, _, _, _, _, _, _, _, _, _, rfl, _⟩ := h; rfl)) h) | (obtain ⟨rfl, _⟩ := h; rfl) | (obtain ⟨_, rfl, _⟩ := h; rfl) | (obtain ⟨_, _, rfl, _⟩ := h; rfl) | (obtain ⟨_, _, _, rfl, _⟩ := h; rfl) | (obtain ⟨_, _, _, _, rfl, _⟩ := h; rfl) | (obtain ⟨_, _, _, _, _, rfl, _⟩ := h; rfl) | (obtain ⟨_, _, _, _, _, _, rfl, _⟩ := h; rfl) | (obtain ⟨_, _, _, _, _, _, _, rfl, _⟩ := h; rfl) | (obtain ⟨_, _, _, _, _, _, _, _, rfl, _⟩ := h; rfl) | (obtain ⟨_, _, _, _, _, _, _, _, _, rfl, _⟩ := h; rfl) | (obtain ⟨_, _, _, _, _, _, _, _, _, _, rfl, _⟩ := h; rfl)) (fun cdv A outer s H vs Q E hr h => ⟨t_l_sided d, ?_, pure_l_sided  h⟩)
  exact (pss_cons (ps_set (i := 4) sc_l_sided.nd rfl (Or.inl rfl) pe_str)
      (pss_cons (ps_set (i := 5) sc_l_sided.nd rfl (Or.inl rfl) (pe_ix ix_str (pv 4) (pe_op op_mod (pe_op op_fdiv (pv 0) pe_int) pe_int) (fun _ _ => rfl)))
      (pss_cons (ps_set (i := 6) sc_l_sided.nd rfl (Or.inl rfl) (pe_op op_mod (pv 0) pe_int))
      (pss_cons (ps_if (pt_cmpR op_eq (pv 6) pe_int (nomark _)) (pss_one (ps_ret (pe_tup (pa_cons pe_str (pa_cons (pv 5) (pa_cons (pv 1) (pa_cons (pv 2) pa_nil))))))) pss_nil)
      (pss_cons (ps_set (i := 7) sc_l_sided.nd rfl (Or.inl rfl) (pe_tup (pa_cons pe_str pa_nil)))
      (pss_cons (ps_if (pt_cmpR op_eq (pv 6) pe_int (nomark _)) (pss_one (ps_set (i := 7) sc_l_sided.nd rfl (Or.inl rfl) (pe_tup (pa_cons pe_str (pa_cons (pe_ix ix_list (pv 3) (pe_op op_mod (pe_op op_fdiv (pv 0) pe_int) pe_int) (fun _ _ => rfl)) (pa_cons (pv 5) pa_nil)))))) pss_nil)
      (pss_cons (ps_if (pt_cmpR op_eq (pe_op op_mod (pe_op op_fdiv (pv 0) pe_int) pe_int) pe_int (nomark _)) (pss_one (ps_set (i := 1) sc_l_sided.nd rfl (Or.inl rfl) (pe_op op_catQ (pv 1) (pe_lst (pa_cons (pv 7) pa_nil))))) pss_nil)
      (pss_cons (ps_if (pt_cmpR op_eq (pe_op op_mod (pe_op op_fdiv (pv 0) pe_int) pe_int) pe_int (nomark _)) (pss_one (ps_set (i := 1) sc_l_sided.nd rfl (Or.inl rfl) (pe_op op_catQ (pv 1) (pe_lst (pa_cons (pe_tup (pa_cons pe_str (pa_cons (pv 5) (pa_cons (pe_lst (pa_cons (pv 7) pa_nil)) (pa_cons (pe_lst pa_nil) pa_nil))))) pa_nil))))) pss_nil)
      (pss_cons (ps_if (pt_cmpR op_eq (pv 6) pe_int (nomark _)) (pss_one (ps_ret (pe_tup (pa_cons pe_str (pa_cons (pv 1) (pa_cons (pv 2) pa_nil)))))) pss_nil)
      (pss_one (ps_ret (pe_tup (pa_cons pe_str (pa_cons (pv 1) (pa_cons (pe_ix ix_list (pv 3) (pe_op op_mod (pe_op op_fdiv (pv 0) pe_int) pe_int) (fun _ _ => rfl)) (pa_cons (pe_ix ix_str (pv 4) (pe_op op_mod (pe_op op_fdiv (pv 0) pe_int) pe_int) (fun _ _ => rfl)) (pa_cons (pv 2) pa_nil)))))))))))))))))
theorem okG_l_tree (T : Txt d mg z) : (n : Nat) → FnOk P w d.K mg base CX0 (n + 3) z.f_l_tree z.d_l_tree ["_law_cells", "_law_depth", "_law_names_here"] (spN_l_tree n d)
  | 0 => fnok_no fun vs H Q E h => no_l_tree h
  | n + 1 => by
    have G_l_mixed := ok_l_mixed (P := P) (w := w) (base := base) T
    have G_l_plain := ok_l_plain (P := P) (w := w) (base := base) T
    have G_l_sided := ok_l_sided (P := P) (w := w) (base := base) T
    have GG := okG_l_tree T n
    have GN_l_tree := GG
    refine FnOk.mono (j := n + 3 + 1) ?_ (by omega)
    refine T.F_l_tree.ok sc_l_tree (fun vs H Q E h => by first | (exact lift_len (fun ds W Q h => by first | (obtain ⟨rfl, _⟩ := h; rfl) | (obtain ⟨_, rfl, _⟩ := h; rfl) | (obtain ⟨_, _, rfl, _⟩ := h; rfl) | (obtain ⟨_, _, _, rfl, _⟩ := h; rfl) | (obtain ⟨_, _, _, _, rfl, _⟩ := h; rfl) | (obtain ⟨_, _, _, _, _, rfl, _⟩ := h; rfl) | (obtain ⟨_, _, _, _, _, _, rfl, _⟩ := h; rfl) | (obtain ⟨_, _, _, _, _, _, _, rfl, _⟩ := h; rfl) | (obtain ⟨_, _, _, _, _, _, _, _, rfl, _⟩ := h; rfl) | (obtain ⟨_, _, _, _, _, _, _, _, _, rfl, _⟩ := h; rfl) | (obtain ⟨_, _, _, _, _, _, _, _, _, _, rfl, _⟩ := h; rfl)) h) | (obtain ⟨rfl, _⟩ := h; rfl) | (obtain ⟨_, rfl, _⟩ := h; rfl) | (obtain ⟨_, _, rfl, _⟩ := h; rfl) | (obtain ⟨_, _, _, rfl, _⟩ := h; rfl) | (obtain ⟨_, _, _, _, rfl, _⟩ := h; rfl) | (obtain ⟨_, _, _, _, _, rfl, _⟩ := h; rfl) | (obtain ⟨_, _, _, _, _, _, rfl, _⟩ := h; rfl) | (obtain ⟨_, _, _, _, _, _, _, rfl, _⟩ := h; rfl) | (obtain ⟨_, _, _, _, _, _, _, _, rfl, _⟩ := h; rfl) | (obtain ⟨_, _, _, _, _, _, _, _, _, rfl, _⟩ := h; rfl) | (obtain ⟨_, _, _, _, _, _, _, _, _, _, rfl, _⟩ := h; rfl)) (fun cdv A outer s H vs Q E hr h => ⟨t_l_tree n d, ?_, pure_l_tree  h⟩)
    exact (pss_cons (ps_set (i := 3) sc_l_tree.nd rfl (Or.inl rfl) (pe_lst pa_nil))
        (pss_cons (ps_set (i := 4) sc_l_tree.nd rfl (Or.inl rfl) pe_int)
        (pss_cons (ps_while PassesOwn.never (pt_cmpR o_lt (pv 4) (pe_callB call_len_seq (by rfl) T.b_len (by decide +kernel) (pa_cons (pv 0) pa_nil)) (nomark _)) (pss_cons (ps_set (i := 5) sc_l_tree.nd rfl (Or.inl rfl) (pe_ix ix_list (pv 0) (pv 4) (fun _ _ => rfl)))
        (pss_cons (ps_set (i := 6) sc_l_tree.nd rfl (Or.inl rfl) (pe_call G_l_mixed (hr.mono (by omega)) rfl T.m_l_mixed T.F_l_mixed.kp T.B_l_mixed .nil pass0 (pa_cons (pv 5) pa_nil)))
        (pss_cons (ps_set (i := 4) sc_l_tree.nd rfl (Or.inl rfl) (pe_op op_add (pv 4) pe_int))
        (pss_one (ps_if (PW.pt (pw_or (pt_cmpR op_eq (pv 1) pe_int (nomark _)) (pw_or1 (pt_cmpR o_lt (pe_op op_mod (pv 6) pe_int) pe_int (nomark _))))) (pss_one (ps_set (i := 3) sc_l_tree.nd rfl (Or.inl rfl) (pe_op op_catQ (pv 3) (pe_call G_l_plain (hr.mono (by omega)) rfl T.m_l_plain T.F_l_plain.kp T.B_l_plain .nil pass0 (pa_cons (pe_op op_fdiv (pv 6) pe_int) (pa_cons (pv 5) pa_nil)))))) (pss_one (ps_if (pt_cmpR op_eq (pe_op op_mod (pv 6) pe_int) pe_int (nomark _)) (pss_cons (ps_set (i := 7) sc_l_tree.nd rfl (Or.inl rfl) (pe_lst (pa_cons (pe_tup (pa_cons pe_str pa_nil)) (pa_cons (pe_tup (pa_cons pe_str (pa_cons (pe_ix ix_list (pv 2) (pe_op op_mod (pe_op op_fdiv (pv 6) pe_int) pe_int) (fun _ _ => rfl)) (pa_cons (pe_ix ix_str pe_str (pe_op op_mod (pe_op op_fdiv (pv 6) pe_int) pe_int) (fun _ _ => rfl)) pa_nil)))) pa_nil))))
        (pss_one (ps_expr (pe_bm PySem.F.plainAttrs_list PySem.F.slot_list_append PySem.F.type_list_append mt_append (pv 3) (pa_cons (pe_ix ix_list (pv 7) (pe_op op_fdiv (pe_op op_mod (pe_op op_fdiv (pv 6) pe_int) pe_int) pe_int) (fun _ _ => rfl)) pa_nil))))) (pss_cons (ps_set (i := 8) sc_l_tree.nd rfl (Or.inl rfl) (pe_op op_mod (pe_op op_fdiv (pv 6) pe_int) pe_int))
        (pss_cons (ps_set (i := 9) sc_l_tree.nd rfl (Or.inl rfl) (pe_op op_mod (pe_op op_fdiv (pv 6) pe_int) pe_int))
        (pss_cons (ps_set (i := 10) sc_l_tree.nd rfl (Or.inl rfl) (pe_call GN_l_tree (hr.mono (by omega)) rfl T.m_l_tree T.F_l_tree.kp T.B_l_tree .nil pass0 (pa_cons (pe_slice sl_list (pv 0) (po_some (pv 4)) (po_some (pe_op op_add (pv 4) (pv 8)))) (pa_cons (pe_op op_sub (pv 1) pe_int) (pa_cons (pv 2) pa_nil)))))
        (pss_cons (ps_set (i := 11) sc_l_tree.nd rfl (Or.inl rfl) (pe_call GN_l_tree (hr.mono (by omega)) rfl T.m_l_tree T.F_l_tree.kp T.B_l_tree .nil pass0 (pa_cons (pe_slice sl_list (pv 0) (po_some (pe_op op_add (pv 4) (pv 8))) (po_some (pe_op op_add (pe_op op_add (pv 4) (pv 8)) (pv 9)))) (pa_cons (pe_op op_sub (pv 1) pe_int) (pa_cons (pv 2) pa_nil)))))
        (pss_cons (ps_set (i := 4) sc_l_tree.nd rfl (Or.inl rfl) (pe_op op_add (pe_op op_add (pv 4) (pv 8)) (pv 9)))
        (pss_one (ps_expr (pe_bm PySem.F.plainAttrs_list PySem.F.slot_list_append PySem.F.type_list_append mt_append (pv 3) (pa_cons (pe_call G_l_sided (hr.mono (by omega)) rfl T.m_l_sided T.F_l_sided.kp T.B_l_sided .nil pass0 (pa_cons (pe_op op_fdiv (pv 6) pe_int) (pa_cons (pv 10) (pa_cons (pv 11) (pa_cons (pv 2) pa_nil))))) pa_nil)))))))))))))))))
        (pss_one (ps_ret (pv 3))))))
theorem ok_l_tree (T : Txt d mg z) : FnOk P w d.K mg base CX0 (8) z.f_l_tree z.d_l_tree ["_law_cells", "_law_depth", "_law_names_here"] (sp_l_tree d) := okG_l_tree T 5
theorem okG_l_made (T : Txt d mg z) : (n : Nat) → FnOk P w d.K mg base CX0 (n + 3) z.f_l_made z.d_l_made ["_law_tree_here"] (spN_l_made n d)
  | 0 => fnok_no fun vs H Q E h => no_l_made h
  | n + 1 => by
    have G_Let_init := ok_Let_init (P := P) (w := w) (base := base) T
    have G_Reckon_init := ok_Reckon_init (P := P) (w := w) (base := base) T
    have G_Take_init := ok_Take_init (P := P) (w := w) (base := base) T
    have G_Put_init := ok_Put_init (P := P) (w := w) (base := base) T
    have G_If_init := ok_If_init (P := P) (w := w) (base := base) T
    have G_Either_init := ok_Either_init (P := P) (w := w) (base := base) T
    have G_Try_init := ok_Try_init (P := P) (w := w) (base := base) T
    have G_Throw_init := ok_Throw_init (P := P) (w := w) (base := base) T
    have GG := okG_l_made T n
    have GN_l_made := GG
    refine FnOk.mono (j := n + 3 + 1) ?_ (by omega)
    refine T.F_l_made.ok sc_l_made (fun vs H Q E h => by first | (exact lift_len (fun ds W Q h => by first | (obtain ⟨rfl, _⟩ := h; rfl) | (obtain ⟨_, rfl, _⟩ := h; rfl) | (obtain ⟨_, _, rfl, _⟩ := h; rfl) | (obtain ⟨_, _, _, rfl, _⟩ := h; rfl) | (obtain ⟨_, _, _, _, rfl, _⟩ := h; rfl) | (obtain ⟨_, _, _, _, _, rfl, _⟩ := h; rfl) | (obtain ⟨_, _, _, _, _, _, rfl, _⟩ := h; rfl) | (obtain ⟨_, _, _, _, _, _, _, rfl, _⟩ := h; rfl) | (obtain ⟨_, _, _, _, _, _, _, _, rfl, _⟩ := h; rfl) | (obtain ⟨_, _, _, _, _, _, _, _, _, rfl, _⟩ := h; rfl) | (obtain ⟨_, _, _, _, _, _, _, _, _, _, rfl, _⟩ := h; rfl)) h) | (obtain ⟨rfl, _⟩ := h; rfl) | (obtain ⟨_, rfl, _⟩ := h; rfl) | (obtain ⟨_, _, rfl, _⟩ := h; rfl) | (obtain ⟨_, _, _, rfl, _⟩ := h; rfl) | (obtain ⟨_, _, _, _, rfl, _⟩ := h; rfl) | (obtain ⟨_, _, _, _, _, rfl, _⟩ := h; rfl) | (obtain ⟨_, _, _, _, _, _, rfl, _⟩ := h; rfl) | (obtain ⟨_, _, _, _, _, _, _, rfl, _⟩ := h; rfl) | (obtain ⟨_, _, _, _, _, _, _, _, rfl, _⟩ := h; rfl) | (obtain ⟨_, _, _, _, _, _, _, _, _, rfl, _⟩ := h; rfl) | (obtain ⟨_, _, _, _, _, _, _, _, _, _, rfl, _⟩ := h; rfl)) (fun cdv A outer s H vs Q E hr h => ⟨t_l_made n d, ?_, pure_l_made  h⟩)
    exact (pss_cons (ps_set (i := 1) sc_l_made.nd rfl (Or.inl rfl) (pe_lst pa_nil))
        (pss_cons (ps_for PassesOwn.never rfl (pi_list (pv 0)) (pg_name (i := 2) sc_l_made.nd rfl (Or.inl rfl)) (pss_one (ps_if (pt_cmpR op_eq (pe_ix ix_tup (pv 2) pe_int (fun _ _ => rfl)) pe_str (nomark _)) (pss_one (ps_expr (pe_bm PySem.F.plainAttrs_list PySem.F.slot_list_append PySem.F.type_list_append mt_append (pv 1) (pa_cons (pe_make T.K_Let G_Let_init (hr.mono (by omega)) rfl T.g_Let T.B_Let_init .nil pass0 (pa_cons (pe_ix ix_tup (pv 2) pe_int (fun _ _ => rfl)) (pa_cons (pe_ix ix_tup (pv 2) pe_int (fun _ _ => rfl)) pa_nil))) pa_nil)))) (pss_one (ps_if (pt_cmpR op_eq (pe_ix ix_tup (pv 2) pe_int (fun _ _ => rfl)) pe_str (nomark _)) (pss_one (ps_expr (pe_bm PySem.F.plainAttrs_list PySem.F.slot_list_append PySem.F.type_list_append mt_append (pv 1) (pa_cons (pe_make T.K_Reckon G_Reckon_init (hr.mono (by omega)) rfl T.g_Reckon T.B_Reckon_init .nil pass0 (pa_cons (pe_ix ix_tup (pv 2) pe_int (fun _ _ => rfl)) (pa_cons (pe_ix ix_tup (pv 2) pe_int (fun _ _ => rfl)) (pa_cons (pe_ix ix_tup (pv 2) pe_int (fun _ _ => rfl)) (pa_cons (pe_ix ix_tup (pv 2) pe_int (fun _ _ => rfl)) pa_nil))))) pa_nil)))) (pss_one (ps_if (pt_cmpR op_eq (pe_ix ix_tup (pv 2) pe_int (fun _ _ => rfl)) pe_str (nomark _)) (pss_one (ps_expr (pe_bm PySem.F.plainAttrs_list PySem.F.slot_list_append PySem.F.type_list_append mt_append (pv 1) (pa_cons (pe_make T.K_Take G_Take_init (hr.mono (by omega)) rfl T.g_Take T.B_Take_init .nil pass0 (pa_cons (pe_ix ix_tup (pv 2) pe_int (fun _ _ => rfl)) (pa_cons (pe_ix ix_tup (pv 2) pe_int (fun _ _ => rfl)) pa_nil))) pa_nil)))) (pss_one (ps_if (pt_cmpR op_eq (pe_ix ix_tup (pv 2) pe_int (fun _ _ => rfl)) pe_str (nomark _)) (pss_one (ps_expr (pe_bm PySem.F.plainAttrs_list PySem.F.slot_list_append PySem.F.type_list_append mt_append (pv 1) (pa_cons (pe_make T.K_Put G_Put_init (hr.mono (by omega)) rfl T.g_Put T.B_Put_init .nil pass0 (pa_cons (pe_ix ix_tup (pv 2) pe_int (fun _ _ => rfl)) (pa_cons (pe_ix ix_tup (pv 2) pe_int (fun _ _ => rfl)) pa_nil))) pa_nil)))) (pss_one (ps_if (pt_cmpR op_eq (pe_ix ix_tup (pv 2) pe_int (fun _ _ => rfl)) pe_str (nomark _)) (pss_one (ps_expr (pe_bm PySem.F.plainAttrs_list PySem.F.slot_list_append PySem.F.type_list_append mt_append (pv 1) (pa_cons (pe_make T.K_If G_If_init (hr.mono (by omega)) rfl T.g_If T.B_If_init .nil pass0 (pa_cons (pe_ix ix_tup (pv 2) pe_int (fun _ _ => rfl)) (pa_cons (pe_call GN_l_made (hr.mono (by omega)) rfl T.m_l_made T.F_l_made.kp T.B_l_made .nil pass0 (pa_cons (pe_ix ix_tup (pv 2) pe_int (fun _ _ => rfl)) pa_nil)) (pa_cons (pe_call GN_l_made (hr.mono (by omega)) rfl T.m_l_made T.F_l_made.kp T.B_l_made .nil pass0 (pa_cons (pe_ix ix_tup (pv 2) pe_int (fun _ _ => rfl)) pa_nil)) pa_nil)))) pa_nil)))) (pss_one (ps_if (pt_cmpR op_eq (pe_ix ix_tup (pv 2) pe_int (fun _ _ => rfl)) pe_str (nomark _)) (pss_one (ps_expr (pe_bm PySem.F.plainAttrs_list PySem.F.slot_list_append PySem.F.type_list_append mt_append (pv 1) (pa_cons (pe_make T.K_Either G_Either_init (hr.mono (by omega)) rfl T.g_Either T.B_Either_init .nil pass0 (pa_cons (pe_call GN_l_made (hr.mono (by omega)) rfl T.m_l_made T.F_l_made.kp T.B_l_made .nil pass0 (pa_cons (pe_ix ix_tup (pv 2) pe_int (fun _ _ => rfl)) pa_nil)) (pa_cons (pe_call GN_l_made (hr.mono (by omega)) rfl T.m_l_made T.F_l_made.kp T.B_l_made .nil pass0 (pa_cons (pe_ix ix_tup (pv 2) pe_int (fun _ _ => rfl)) pa_nil)) pa_nil))) pa_nil)))) (pss_one (ps_if (pt_cmpR op_eq (pe_ix ix_tup (pv 2) pe_int (fun _ _ => rfl)) pe_str (nomark _)) (pss_one (ps_expr (pe_bm PySem.F.plainAttrs_list PySem.F.slot_list_append PySem.F.type_list_append mt_append (pv 1) (pa_cons (pe_make T.K_Try G_Try_init (hr.mono (by omega)) rfl T.g_Try T.B_Try_init .nil pass0 (pa_cons (pe_call GN_l_made (hr.mono (by omega)) rfl T.m_l_made T.F_l_made.kp T.B_l_made .nil pass0 (pa_cons (pe_ix ix_tup (pv 2) pe_int (fun _ _ => rfl)) pa_nil)) (pa_cons (pe_ix ix_tup (pv 2) pe_int (fun _ _ => rfl)) (pa_cons (pe_ix ix_tup (pv 2) pe_int (fun _ _ => rfl)) (pa_cons (pe_call GN_l_made (hr.mono (by omega)) rfl T.m_l_made T.F_l_made.kp T.B_l_made .nil pass0 (pa_cons (pe_ix ix_tup (pv 2) pe_int (fun _ _ => rfl)) pa_nil)) pa_nil))))) pa_nil)))) (pss_one (ps_if (pt_cmpR op_eq (pe_ix ix_tup (pv 2) pe_int (fun _ _ => rfl)) pe_str (nomark _)) (pss_one (ps_expr (pe_bm PySem.F.plainAttrs_list PySem.F.slot_list_append PySem.F.type_list_append mt_append (pv 1) (pa_cons (pe_make T.K_Throw G_Throw_init (hr.mono (by omega)) rfl T.g_Throw T.B_Throw_init .nil pass0 (pa_cons (pe_ix ix_tup (pv 2) pe_int (fun _ _ => rfl)) (pa_cons (pe_ix ix_tup (pv 2) pe_int (fun _ _ => rfl)) pa_nil))) pa_nil)))) (pss_one (ps_expr (pe_bm PySem.F.plainAttrs_list PySem.F.slot_list_append PySem.F.type_list_append mt_append (pv 1) (pa_cons (pe_makeO T.MO_Wait rfl T.g_Wait) pa_nil)))))))))))))))))))))
        (pss_one (ps_ret (pv 1)))))
theorem ok_l_made (T : Txt d mg z) : FnOk P w d.K mg base CX0 (23) z.f_l_made z.d_l_made ["_law_tree_here"] (sp_l_made d) := okG_l_made T 20
theorem ok_l_boxes (T : Txt d mg z) : FnOk P w d.K mg base CX0 2 z.f_l_boxes z.d_l_boxes ["_law_cell"] (sp_l_boxes d) := by
  have G_l_mixed := ok_l_mixed (P := P) (w := w) (base := base) T
  have G_l_wide := ok_l_wide (P := P) (w := w) (base := base) T
  refine T.F_l_boxes.ok sc_l_boxes (fun vs H Q E h => by first | (exact lift_len (fun ds W Q h => by first | (obtain ⟨rfl, _⟩ := h; rfl) | (obtain ⟨_, rfl, _⟩ := h; rfl) | (obtain ⟨_, _, rfl, _⟩ := h; rfl) | (obtain ⟨_, _, _, rfl, _⟩ := h; rfl) | (obtain ⟨_, _, _, _, rfl, _⟩ := h; rfl) | (obtain ⟨_, _, _, _, _, rfl, _⟩ := h; rfl) | (obtain ⟨_, _, _, _, _, _, rfl, _⟩ := h; rfl) | (obtain ⟨_, _, _, _, _, _, _, rfl, _⟩ := h; rfl) | (obtain ⟨_, _, _, _, _, _, _, _, rfl, _⟩ := h; rfl) | (obtain ⟨_, _, _, _, _, _, _, _, _, rfl, _⟩ := h; rfl) | (obtain ⟨_, _, _, _, _, _, _, _, _, _, rfl, _⟩ := h; rfl)) h) | (obtain ⟨rfl, _⟩ := h; rfl) | (obtain ⟨_, rfl, _⟩ := h; rfl) | (obtain ⟨_, _, rfl, _⟩ := h; rfl) | (obtain ⟨_, _, _, rfl, _⟩ := h; rfl) | (obtain ⟨_, _, _, _, rfl, _⟩ := h; rfl) | (obtain ⟨_, _, _, _, _, rfl, _⟩ := h; rfl) | (obtain ⟨_, _, _, _, _, _, rfl, _⟩ := h; rfl) | (obtain ⟨_, _, _, _, _, _, _, rfl, _⟩ := h; rfl) | (obtain ⟨_, _, _, _, _, _, _, _, rfl, _⟩ := h; rfl) | (obtain ⟨_, _, _, _, _, _, _, _, _, rfl, _⟩ := h; rfl) | (obtain ⟨_, _, _, _, _, _, _, _, _, _, rfl, _⟩ := h; rfl)) (fun cdv A outer s H vs Q E hr h => ⟨t_l_boxes d, ?_, pure_l_boxes  h⟩)
  exact (pss_cons (ps_set (i := 1) sc_l_boxes.nd rfl (Or.inl rfl) (pe_call G_l_mixed (hr.mono (by omega)) rfl T.m_l_mixed T.F_l_mixed.kp T.B_l_mixed .nil pass0 (pa_cons (pv 0) pa_nil)))
      (pss_cons (ps_set (i := 2) sc_l_boxes.nd rfl (Or.inl rfl) (pe_ix ix_list (pe_lst (pa_cons pe_int (pa_cons pe_int (pa_cons pe_int (pa_cons (pe_op op_add pe_int (pe_op op_mod (pe_op op_fdiv (pv 1) pe_int) pe_int)) pa_nil))))) (pe_op op_mod (pv 1) pe_int) (fun _ _ => rfl)))
      (pss_cons (ps_set (i := 3) sc_l_boxes.nd rfl (Or.inl rfl) (pe_lst pa_nil))
      (pss_cons (ps_for PassesOwn.never rfl (pi_range1 rfl T.b_range (pa_cons (pv 2) pa_nil)) (pg_name (i := 4) sc_l_boxes.nd rfl (Or.inl rfl)) (pss_cons (ps_set (i := 5) sc_l_boxes.nd rfl (Or.inl rfl) (pe_lst (pa_cons (pe_op op_mod (pe_op op_fdiv (pe_op op_fdiv (pv 1) pe_int) (pe_op op_add (pv 4) pe_int)) pe_int) (pa_cons (pe_call G_l_wide (hr.mono (by omega)) rfl T.m_l_wide T.F_l_wide.kp T.B_l_wide .nil pass0 (pa_cons (pe_op op_add (pv 0) (pe_op op_mul (pv 4) (pv 4))) pa_nil)) pa_nil))))
      (pss_one (ps_expr (pe_bm PySem.F.plainAttrs_list PySem.F.slot_list_append PySem.F.type_list_append mt_append (pv 3) (pa_cons (pe_ix ix_list (pv 5) (pe_op op_mod (pe_op op_add (pe_op op_fdiv (pv 1) pe_int) (pv 4)) pe_int) (fun _ _ => rfl)) pa_nil))))))
      (pss_one (ps_ret (pv 3)))))))
theorem ok_l_slots (T : Txt d mg z) : FnOk P w d.K mg base CX0 2 z.f_l_slots z.d_l_slots ["_law_cell"] (sp_l_slots d) := by
  have G_l_mixed := ok_l_mixed (P := P) (w := w) (base := base) T
  have G_l_wide := ok_l_wide (P := P) (w := w) (base := base) T
  refine T.F_l_slots.ok sc_l_slots (fun vs H Q E h => by first | (exact lift_len (fun ds W Q h => by first | (obtain ⟨rfl, _⟩ := h; rfl) | (obtain ⟨_, rfl, _⟩ := h; rfl) | (obtain ⟨_, _, rfl, _⟩ := h; rfl) | (obtain ⟨_, _, _, rfl, _⟩ := h; rfl) | (obtain ⟨_, _, _, _, rfl, _⟩ := h; rfl) | (obtain ⟨_, _, _, _, _, rfl, _⟩ := h; rfl) | (obtain ⟨_, _, _, _, _, _, rfl, _⟩ := h; rfl) | (obtain ⟨_, _, _, _, _, _, _, rfl, _⟩ := h; rfl) | (obtain ⟨_, _, _, _, _, _, _, _, rfl, _⟩ := h; rfl) | (obtain ⟨_, _, _, _, _, _, _, _, _, rfl, _⟩ := h; rfl) | (obtain ⟨_, _, _, _, _, _, _, _, _, _, rfl, _⟩ := h; rfl)) h) | (obtain ⟨rfl, _⟩ := h; rfl) | (obtain ⟨_, rfl, _⟩ := h; rfl) | (obtain ⟨_, _, rfl, _⟩ := h; rfl) | (obtain ⟨_, _, _, rfl, _⟩ := h; rfl) | (obtain ⟨_, _, _, _, rfl, _⟩ := h; rfl) | (obtain ⟨_, _, _, _, _, rfl, _⟩ := h; rfl) | (obtain ⟨_, _, _, _, _, _, rfl, _⟩ := h; rfl) | (obtain ⟨_, _, _, _, _, _, _, rfl, _⟩ := h; rfl) | (obtain ⟨_, _, _, _, _, _, _, _, rfl, _⟩ := h; rfl) | (obtain ⟨_, _, _, _, _, _, _, _, _, rfl, _⟩ := h; rfl) | (obtain ⟨_, _, _, _, _, _, _, _, _, _, rfl, _⟩ := h; rfl)) (fun cdv A outer s H vs Q E hr h => ⟨t_l_slots d, ?_, pure_l_slots  h⟩)
  exact (pss_cons (ps_set (i := 1) sc_l_slots.nd rfl (Or.inr rfl) (pe_call G_l_mixed (hr.mono (by omega)) rfl T.m_l_mixed T.F_l_mixed.kp T.B_l_mixed .nil pass0 (pa_cons (pv 0) pa_nil)))
      (pss_cons (ps_setLc (i := 2) (own := [("_law_k", 3)]) rfl sc_l_slots.nd rfl rfl (sw_true rfl rfl rfl (by decide +kernel)) (pi_range1 rfl T.b_range (pa_cons pe_int pa_nil)) (blkOk_by (own := [("_law_k", 3)]) (N := N_l_slots) (sc := defScope s_l_slots) (by decide +kernel)) (fun _ _ _ _ _ => (pg_name (i := 3) sc_l_slots.nd rfl (Or.inl rfl))) (fun _ _ _ _ _ => pts_nil) (fun _ _ _ _ _ => (pe_op op_mod (pe_op op_fdiv (pv 1) (pe_op op_add (pe_op op_mul (pv 3) (pv 3)) pe_int)) pe_int)))
      (pss_cons (ps_asg (pe_call G_l_wide (hr.mono (by omega)) rfl T.m_l_wide T.F_l_wide.kp T.B_l_wide .nil pass0 (pa_cons (pv 0) pa_nil)) (pg_sub (pv 2) (pe_op op_mod (pv 1) pe_int) set_list))
      (pss_one (ps_ret (pv 2))))))
theorem ok_l_sum (T : Txt d mg z) : FnOk P w d.K mg base CX0 1 z.f_l_sum z.d_l_sum ["_law_word", "_law_one", "_law_other"] (sp_l_sum d) := by
  refine T.F_l_sum.ok sc_l_sum (fun vs H Q E h => by first | (exact lift_len (fun ds W Q h => by first | (obtain ⟨rfl, _⟩ := h; rfl) | (obtain ⟨_, rfl, _⟩ := h; rfl) | (obtain ⟨_, _, rfl, _⟩ := h; rfl) | (obtain ⟨_, _, _, rfl, _⟩ := h; rfl) | (obtain ⟨_, _, _, _, rfl, _⟩ := h; rfl) | (obtain ⟨_, _, _, _, _, rfl, _⟩ := h; rfl) | (obtain ⟨_, _, _, _, _, _, rfl, _⟩ := h; rfl) | (obtain ⟨_, _, _, _, _, _, _, rfl, _⟩ := h; rfl) | (obtain ⟨_, _, _, _, _, _, _, _, rfl, _⟩ := h; rfl) | (obtain ⟨_, _, _, _, _, _, _, _, _, rfl, _⟩ := h; rfl) | (obtain ⟨_, _, _, _, _, _, _, _, _, _, rfl, _⟩ := h; rfl)) h) | (obtain ⟨rfl, _⟩ := h; rfl) | (obtain ⟨_, rfl, _⟩ := h; rfl) | (obtain ⟨_, _, rfl, _⟩ := h; rfl) | (obtain ⟨_, _, _, rfl, _⟩ := h; rfl) | (obtain ⟨_, _, _, _, rfl, _⟩ := h; rfl) | (obtain ⟨_, _, _, _, _, rfl, _⟩ := h; rfl) | (obtain ⟨_, _, _, _, _, _, rfl, _⟩ := h; rfl) | (obtain ⟨_, _, _, _, _, _, _, rfl, _⟩ := h; rfl) | (obtain ⟨_, _, _, _, _, _, _, _, rfl, _⟩ := h; rfl) | (obtain ⟨_, _, _, _, _, _, _, _, _, rfl, _⟩ := h; rfl) | (obtain ⟨_, _, _, _, _, _, _, _, _, _, rfl, _⟩ := h; rfl)) (fun cdv A outer s H vs Q E hr h => ⟨t_l_sum d, ?_, pure_l_sum  h⟩)
  exact (pss_cons (ps_if (pt_cmpR op_eq (pv 0) pe_str (nomark _)) (pss_one (ps_ret (pe_callTy call_int1 (by rfl) T.b_int (by decide +kernel) (pa_cons (pe_cmpR o_lt (pv 1) (pv 2) (nomark _)) pa_nil)))) pss_nil)
      (pss_cons (ps_if (pt_cmpR op_eq (pv 0) pe_str (nomark _)) (pss_one (ps_ret (pe_callTy call_int1 (by rfl) T.b_int (by decide +kernel) (pa_cons (pe_cmpR op_eq (pv 1) (pv 2) (nomark _)) pa_nil)))) pss_nil)
      (pss_cons (ps_if (pt_cmpR op_eq (pv 0) pe_str (nomark _)) (pss_one (ps_ret (pe_op op_mod (pe_op op_add (pv 1) (pv 2)) (pe_op op_pow pe_int pe_int)))) pss_nil)
      (pss_cons (ps_if (pt_cmpR op_eq (pv 0) pe_str (nomark _)) (pss_one (ps_ret (pe_op op_mod (pe_op op_sub (pv 1) (pv 2)) (pe_op op_pow pe_int pe_int)))) pss_nil)
      (pss_one (ps_ret (pe_op op_mod (pe_op op_mul (pv 1) (pv 2)) (pe_op op_pow pe_int pe_int))))))))
theorem ok_l_pairs (T : Txt d mg z) : FnOk P w d.K mg base CX0 1 z.f_l_pairs z.d_l_pairs ["_law_found"] (sp_l_pairs d) := by
  refine T.F_l_pairs.ok sc_l_pairs (fun vs H Q E h => by first | (exact lift_len (fun ds W Q h => by first | (obtain ⟨rfl, _⟩ := h; rfl) | (obtain ⟨_, rfl, _⟩ := h; rfl) | (obtain ⟨_, _, rfl, _⟩ := h; rfl) | (obtain ⟨_, _, _, rfl, _⟩ := h; rfl) | (obtain ⟨_, _, _, _, rfl, _⟩ := h; rfl) | (obtain ⟨_, _, _, _, _, rfl, _⟩ := h; rfl) | (obtain ⟨_, _, _, _, _, _, rfl, _⟩ := h; rfl) | (obtain ⟨_, _, _, _, _, _, _, rfl, _⟩ := h; rfl) | (obtain ⟨_, _, _, _, _, _, _, _, rfl, _⟩ := h; rfl) | (obtain ⟨_, _, _, _, _, _, _, _, _, rfl, _⟩ := h; rfl) | (obtain ⟨_, _, _, _, _, _, _, _, _, _, rfl, _⟩ := h; rfl)) h) | (obtain ⟨rfl, _⟩ := h; rfl) | (obtain ⟨_, rfl, _⟩ := h; rfl) | (obtain ⟨_, _, rfl, _⟩ := h; rfl) | (obtain ⟨_, _, _, rfl, _⟩ := h; rfl) | (obtain ⟨_, _, _, _, rfl, _⟩ := h; rfl) | (obtain ⟨_, _, _, _, _, rfl, _⟩ := h; rfl) | (obtain ⟨_, _, _, _, _, _, rfl, _⟩ := h; rfl) | (obtain ⟨_, _, _, _, _, _, _, rfl, _⟩ := h; rfl) | (obtain ⟨_, _, _, _, _, _, _, _, rfl, _⟩ := h; rfl) | (obtain ⟨_, _, _, _, _, _, _, _, _, rfl, _⟩ := h; rfl) | (obtain ⟨_, _, _, _, _, _, _, _, _, _, rfl, _⟩ := h; rfl)) (fun cdv A outer s H vs Q E hr h => ⟨t_l_pairs d, ?_, pure_l_pairs  h⟩)
  have hu := hu_of hr
  exact (pss_one (ps_ret (pe_lc (own := [("_law_box", 1)]) rfl sc_l_pairs.nd (pi_list (pe_callB (call_sortedDI rfl) (by rfl) T.b_sorted (by decide +kernel) (pa_cons (pv 0) pa_nil))) (blkOk_by (own := [("_law_box", 1)]) (N := N_l_pairs) (sc := defScope s_l_pairs) (by decide +kernel)) (fun _ _ _ _ _ => (pg_name (i := 1) sc_l_pairs.nd rfl (Or.inl rfl))) (fun _ _ _ _ _ => pts_nil) (fun _ _ _ _ _ => (pe_tup (pa_cons (pv 1) (pa_cons (pe_dget hu (pv 0) (pv 1) (fun _ _ => rfl)) pa_nil)))))))
theorem ok_l_mark (T : Txt d mg z) : FnOk P w d.K mg base CX0 1 z.f_l_mark z.d_l_mark ["_law_marks", "_law_row"] (sp_l_mark d) := by
  refine T.F_l_mark.ok sc_l_mark (fun vs H Q E h => by first | (exact lift_len (fun ds W Q h => by first | (obtain ⟨rfl, _⟩ := h; rfl) | (obtain ⟨_, rfl, _⟩ := h; rfl) | (obtain ⟨_, _, rfl, _⟩ := h; rfl) | (obtain ⟨_, _, _, rfl, _⟩ := h; rfl) | (obtain ⟨_, _, _, _, rfl, _⟩ := h; rfl) | (obtain ⟨_, _, _, _, _, rfl, _⟩ := h; rfl) | (obtain ⟨_, _, _, _, _, _, rfl, _⟩ := h; rfl) | (obtain ⟨_, _, _, _, _, _, _, rfl, _⟩ := h; rfl) | (obtain ⟨_, _, _, _, _, _, _, _, rfl, _⟩ := h; rfl) | (obtain ⟨_, _, _, _, _, _, _, _, _, rfl, _⟩ := h; rfl) | (obtain ⟨_, _, _, _, _, _, _, _, _, _, rfl, _⟩ := h; rfl)) h) | (obtain ⟨rfl, _⟩ := h; rfl) | (obtain ⟨_, rfl, _⟩ := h; rfl) | (obtain ⟨_, _, rfl, _⟩ := h; rfl) | (obtain ⟨_, _, _, rfl, _⟩ := h; rfl) | (obtain ⟨_, _, _, _, rfl, _⟩ := h; rfl) | (obtain ⟨_, _, _, _, _, rfl, _⟩ := h; rfl) | (obtain ⟨_, _, _, _, _, _, rfl, _⟩ := h; rfl) | (obtain ⟨_, _, _, _, _, _, _, rfl, _⟩ := h; rfl) | (obtain ⟨_, _, _, _, _, _, _, _, rfl, _⟩ := h; rfl) | (obtain ⟨_, _, _, _, _, _, _, _, _, rfl, _⟩ := h; rfl) | (obtain ⟨_, _, _, _, _, _, _, _, _, _, rfl, _⟩ := h; rfl)) (fun cdv A outer s H vs Q E hr h => ⟨t_l_mark d, ?_, pure_l_mark  h⟩)
  exact (pss_cons (ps_for PassesOwn.never rfl (pi_range3 rfl T.b_range (pa_cons (pe_op op_sub (pe_callB call_len_seq (by rfl) T.b_len (by decide +kernel) (pa_cons (pv 0) pa_nil)) pe_int) (pa_cons (pe_un un_neg pe_int) (pa_cons (pe_un un_neg pe_int) pa_nil)))) (pg_name (i := 2) sc_l_mark.nd rfl (Or.inl rfl)) (pss_cons (ps_if (PW.pt (pw_and (pt_cmpR op_eq (pe_ix ix_tup (pv 1) pe_int (fun _ _ => rfl)) pe_str (nomark _)) (pw_and1 (pt_cmpR op_eq (pe_ix ix_tup (pe_ix ix_list (pv 0) (pv 2) (fun _ _ => rfl)) pe_int (fun _ _ => rfl)) pe_str (nomark _))))) (pss_one (ps_ret (pv 2))) pss_nil)
      (pss_one (ps_if (PW.pt (pw_and (pt_cmpR op_eq (pe_ix ix_tup (pv 1) pe_int (fun _ _ => rfl)) pe_str (nomark _)) (pw_and (pt_cmpR op_eq (pe_ix ix_tup (pe_ix ix_list (pv 0) (pv 2) (fun _ _ => rfl)) pe_int (fun _ _ => rfl)) pe_str (nomark _)) (pw_and1 (pt_cmpR op_eq (pe_ix ix_tup (pe_ix ix_list (pv 0) (pv 2) (fun _ _ => rfl)) pe_int (fun _ _ => rfl)) (pe_ix ix_tup (pv 1) pe_int (fun _ _ => rfl)) (nomark _)))))) (pss_one (ps_ret (pv 2))) pss_nil))))
      (pss_one (ps_ret (pe_un un_neg pe_int))))
theorem ok_l_end (T : Txt d mg z) : FnOk P w d.K mg base CX0 1 z.f_l_end z.d_l_end ["_law_row", "_law_slots_here"] (sp_l_end d) := by
  refine T.F_l_end.ok sc_l_end (fun vs H Q E h => by first | (exact lift_len (fun ds W Q h => by first | (obtain ⟨rfl, _⟩ := h; rfl) | (obtain ⟨_, rfl, _⟩ := h; rfl) | (obtain ⟨_, _, rfl, _⟩ := h; rfl) | (obtain ⟨_, _, _, rfl, _⟩ := h; rfl) | (obtain ⟨_, _, _, _, rfl, _⟩ := h; rfl) | (obtain ⟨_, _, _, _, _, rfl, _⟩ := h; rfl) | (obtain ⟨_, _, _, _, _, _, rfl, _⟩ := h; rfl) | (obtain ⟨_, _, _, _, _, _, _, rfl, _⟩ := h; rfl) | (obtain ⟨_, _, _, _, _, _, _, _, rfl, _⟩ := h; rfl) | (obtain ⟨_, _, _, _, _, _, _, _, _, rfl, _⟩ := h; rfl) | (obtain ⟨_, _, _, _, _, _, _, _, _, _, rfl, _⟩ := h; rfl)) h) | (obtain ⟨rfl, _⟩ := h; rfl) | (obtain ⟨_, rfl, _⟩ := h; rfl) | (obtain ⟨_, _, rfl, _⟩ := h; rfl) | (obtain ⟨_, _, _, rfl, _⟩ := h; rfl) | (obtain ⟨_, _, _, _, rfl, _⟩ := h; rfl) | (obtain ⟨_, _, _, _, _, rfl, _⟩ := h; rfl) | (obtain ⟨_, _, _, _, _, _, rfl, _⟩ := h; rfl) | (obtain ⟨_, _, _, _, _, _, _, rfl, _⟩ := h; rfl) | (obtain ⟨_, _, _, _, _, _, _, _, rfl, _⟩ := h; rfl) | (obtain ⟨_, _, _, _, _, _, _, _, _, rfl, _⟩ := h; rfl) | (obtain ⟨_, _, _, _, _, _, _, _, _, _, rfl, _⟩ := h; rfl)) (fun cdv A outer s H vs Q E hr h => ⟨t_l_end d, ?_, pure_l_end  h⟩)
  have hu := hu_of hr
  exact (pss_cons (ps_if (pt_cmpR op_eq (pe_ix ix_tup (pv 0) pe_int (fun _ _ => rfl)) pe_str (nomark _)) (pss_one (ps_ret (pe_tup (pa_cons pe_str pa_nil)))) pss_nil)
      (pss_one (ps_ret (pe_tup (pa_cons pe_str (pa_cons (pe_ix ix_tup (pv 0) pe_int (fun _ _ => rfl)) (pa_cons (pe_dget hu (pv 1) (pe_ix ix_tup (pv 0) pe_int (fun _ _ => rfl)) (fun _ _ => rfl)) pa_nil)))))))
theorem ok_l_plain_row (T : Txt d mg z) : FnOk P w d.K mg base CX0 2 z.f_l_plain_row z.d_l_plain_row ["_law_row", "_law_boxes_here", "_law_saw", "_law_slots_here", "_law_written"] (sp_l_plain_row d) := by
  have G_l_sum := ok_l_sum (P := P) (w := w) (base := base) T
  refine T.F_l_plain_row.ok sc_l_plain_row (fun vs H Q E h => by first | (exact lift_len (fun ds W Q h => by first | (obtain ⟨rfl, _⟩ := h; rfl) | (obtain ⟨_, rfl, _⟩ := h; rfl) | (obtain ⟨_, _, rfl, _⟩ := h; rfl) | (obtain ⟨_, _, _, rfl, _⟩ := h; rfl) | (obtain ⟨_, _, _, _, rfl, _⟩ := h; rfl) | (obtain ⟨_, _, _, _, _, rfl, _⟩ := h; rfl) | (obtain ⟨_, _, _, _, _, _, rfl, _⟩ := h; rfl) | (obtain ⟨_, _, _, _, _, _, _, rfl, _⟩ := h; rfl) | (obtain ⟨_, _, _, _, _, _, _, _, rfl, _⟩ := h; rfl) | (obtain ⟨_, _, _, _, _, _, _, _, _, rfl, _⟩ := h; rfl) | (obtain ⟨_, _, _, _, _, _, _, _, _, _, rfl, _⟩ := h; rfl)) h) | (obtain ⟨rfl, _⟩ := h; rfl) | (obtain ⟨_, rfl, _⟩ := h; rfl) | (obtain ⟨_, _, rfl, _⟩ := h; rfl) | (obtain ⟨_, _, _, rfl, _⟩ := h; rfl) | (obtain ⟨_, _, _, _, rfl, _⟩ := h; rfl) | (obtain ⟨_, _, _, _, _, rfl, _⟩ := h; rfl) | (obtain ⟨_, _, _, _, _, _, rfl, _⟩ := h; rfl) | (obtain ⟨_, _, _, _, _, _, _, rfl, _⟩ := h; rfl) | (obtain ⟨_, _, _, _, _, _, _, _, rfl, _⟩ := h; rfl) | (obtain ⟨_, _, _, _, _, _, _, _, _, rfl, _⟩ := h; rfl) | (obtain ⟨_, _, _, _, _, _, _, _, _, _, rfl, _⟩ := h; rfl)) (fun cdv A outer s H vs Q E hr h => ⟨t_l_plain_row d, ?_, pure_l_plain_row  h⟩)
  have hu := hu_of hr
  exact (Evl.pss_cut (ps_if (pt_cmpR op_eq (pe_ix ix_tup (pv 0) pe_int (fun _ _ => rfl)) pe_str (nomark _)) (pss_one (ps_dput hu (pv 3) (pe_ix ix_tup (pv 0) pe_int (fun _ _ => rfl)) (pe_ix ix_tup (pv 0) pe_int (fun _ _ => rfl)) rfl)) (pss_one (ps_if (pt_cmpR op_eq (pe_ix ix_tup (pv 0) pe_int (fun _ _ => rfl)) pe_str (nomark _)) (pss_cons (ps_set (i := 5) sc_l_plain_row.nd rfl (Or.inl rfl) (pe_op op_mod (pe_dget hu (pv 3) (pe_ix ix_tup (pv 0) pe_int (fun _ _ => rfl)) (fun _ _ => rfl)) (pe_callB call_len_seq (by rfl) T.b_len (by decide +kernel) (pa_cons (pv 1) pa_nil))))
      (pss_cons (ps_if (pt_cmp (pc_dnotin hu (pv 5) (pv 4))) (pss_one (ps_dput hu (pv 2) (pv 5) (pe_ix ix_list (pv 1) (pv 5) (fun _ _ => rfl)) rfl)) pss_nil)
      (pss_one (ps_dput hu (pv 3) (pe_ix ix_tup (pv 0) pe_int (fun _ _ => rfl)) (pe_dget2 hu (pv 4) (pv 5) (pe_ix ix_list (pv 1) (pv 5) (fun _ _ => rfl)) ⟨by rfl, by rfl, by rfl, by rfl⟩) rfl)))) (pss_one (ps_if (pt_cmpR op_eq (pe_ix ix_tup (pv 0) pe_int (fun _ _ => rfl)) pe_str (nomark _)) (pss_one (ps_dput hu (pv 4) (pe_op op_mod (pe_dget hu (pv 3) (pe_ix ix_tup (pv 0) pe_int (fun _ _ => rfl)) (fun _ _ => rfl)) (pe_callB call_len_seq (by rfl) T.b_len (by decide +kernel) (pa_cons (pv 1) pa_nil))) (pe_dget hu (pv 3) (pe_ix ix_tup (pv 0) pe_int (fun _ _ => rfl)) (fun _ _ => rfl)) rfl)) (pss_one (ps_if (PW.pt (pw_and (pt_cmpR op_eq (pe_callB call_len_seq (by rfl) T.b_len (by decide +kernel) (pa_cons (pv 0) pa_nil)) pe_int (nomark _)) (pw_and1 (pt_cmpR op_in_seq (pe_ix ix_tup (pv 0) pe_int (fun _ _ => rfl)) (pe_tup (pa_cons pe_str (pa_cons pe_str (pa_cons pe_str (pa_cons pe_str (pa_cons pe_str pa_nil)))))) (by rfl))))) (pss_one (ps_dput hu (pv 3) (pe_ix ix_tup (pv 0) pe_int (fun _ _ => rfl)) (pe_call G_l_sum (hr.mono (by omega)) rfl T.m_l_sum T.F_l_sum.kp T.B_l_sum .nil pass0 (pa_cons (pe_ix ix_tup (pv 0) pe_int (fun _ _ => rfl)) (pa_cons (pe_dget hu (pv 3) (pe_ix ix_tup (pv 0) pe_int (fun _ _ => rfl)) (fun _ _ => rfl)) (pa_cons (pe_dget hu (pv 3) (pe_ix ix_tup (pv 0) pe_int (fun _ _ => rfl)) (fun _ _ => rfl)) pa_nil)))) rfl)) pss_nil)))))))
      (pss_one (ps_ret (pe_and (pe_cmpR o_gt (pe_callB call_len_seq (by rfl) T.b_len (by decide +kernel) (pa_cons (pv 0) pa_nil)) pe_int (nomark _)) (pe_one (pe_cmpR op_in_seq (pe_ix ix_tup (pv 0) pe_int (fun _ _ => rfl)) (pe_tup (pa_cons pe_str (pa_cons pe_str (pa_cons pe_str (pa_cons pe_str (pa_cons pe_str (pa_cons pe_str (pa_cons pe_str (pa_cons pe_str pa_nil))))))))) (by rfl)))))))
theorem ok_l_gone (T : Txt d mg z) : FnOk P w d.K mg base CX0 3 z.f_l_gone z.d_l_gone ["_law_rows", "_law_boxes_here", "_law_first"] (sp_l_gone d) := by
  have G_l_pairs := ok_l_pairs (P := P) (w := w) (base := base) T
  have G_l_mark := ok_l_mark (P := P) (w := w) (base := base) T
  have G_l_end := ok_l_end (P := P) (w := w) (base := base) T
  have G_l_plain_row := ok_l_plain_row (P := P) (w := w) (base := base) T
  refine T.F_l_gone.ok sc_l_gone (fun vs H Q E h => by first | (exact lift_len (fun ds W Q h => by first | (obtain ⟨rfl, _⟩ := h; rfl) | (obtain ⟨_, rfl, _⟩ := h; rfl) | (obtain ⟨_, _, rfl, _⟩ := h; rfl) | (obtain ⟨_, _, _, rfl, _⟩ := h; rfl) | (obtain ⟨_, _, _, _, rfl, _⟩ := h; rfl) | (obtain ⟨_, _, _, _, _, rfl, _⟩ := h; rfl) | (obtain ⟨_, _, _, _, _, _, rfl, _⟩ := h; rfl) | (obtain ⟨_, _, _, _, _, _, _, rfl, _⟩ := h; rfl) | (obtain ⟨_, _, _, _, _, _, _, _, rfl, _⟩ := h; rfl) | (obtain ⟨_, _, _, _, _, _, _, _, _, rfl, _⟩ := h; rfl) | (obtain ⟨_, _, _, _, _, _, _, _, _, _, rfl, _⟩ := h; rfl)) h) | (obtain ⟨rfl, _⟩ := h; rfl) | (obtain ⟨_, rfl, _⟩ := h; rfl) | (obtain ⟨_, _, rfl, _⟩ := h; rfl) | (obtain ⟨_, _, _, rfl, _⟩ := h; rfl) | (obtain ⟨_, _, _, _, rfl, _⟩ := h; rfl) | (obtain ⟨_, _, _, _, _, rfl, _⟩ := h; rfl) | (obtain ⟨_, _, _, _, _, _, rfl, _⟩ := h; rfl) | (obtain ⟨_, _, _, _, _, _, _, rfl, _⟩ := h; rfl) | (obtain ⟨_, _, _, _, _, _, _, _, rfl, _⟩ := h; rfl) | (obtain ⟨_, _, _, _, _, _, _, _, _, rfl, _⟩ := h; rfl) | (obtain ⟨_, _, _, _, _, _, _, _, _, _, rfl, _⟩ := h; rfl)) (fun cdv A outer s H vs Q E hr h => ⟨t_l_gone d, ?_, pure_l_gone  h⟩)
  have hu := hu_of hr
  exact (pss_cons (ps_set (i := 3) sc_l_gone.nd rfl (Or.inr rfl) (pe_callTy call_dcopy (by rfl) T.b_dict (by decide +kernel) (pa_cons (pv 2) pa_nil)))
      (pss_cons (ps_set (i := 4) sc_l_gone.nd rfl (Or.inl rfl) pe_dnewK)
      (pss_cons (ps_set (i := 5) sc_l_gone.nd rfl (Or.inl rfl) pe_dnewK)
      (pss_cons (ps_set (i := 6) sc_l_gone.nd rfl (Or.inl rfl) (pe_lst pa_nil))
      (pss_cons (ps_set (i := 7) sc_l_gone.nd rfl (Or.inl rfl) pe_int)
      (pss_cons (ps_while PassesOwn.never (pt_chain o_le o_lt pe_int (pv 7) (pe_callB call_len_seq (by rfl) T.b_len (by decide +kernel) (pa_cons (pv 0) pa_nil))) (pss_cons (ps_set (i := 8) sc_l_gone.nd rfl (Or.inl rfl) (pe_ix ix_list (pv 0) (pv 7) (fun _ _ => rfl)))
      (pss_cons (ps_set (i := 7) sc_l_gone.nd rfl (Or.inl rfl) (pe_op op_add (pv 7) pe_int))
      (pss_cons (ps_if (pt_cmpR op_eq (pe_ix ix_tup (pv 8) pe_int (fun _ _ => rfl)) pe_str (nomark _)) (pss_one (ps_ret (pe_tup (pa_cons (pe_tup (pa_cons pe_str pa_nil)) (pa_cons (pe_call G_l_pairs (hr.mono (by omega)) rfl T.m_l_pairs T.F_l_pairs.kp T.B_l_pairs .nil pass0 (pa_cons (pv 5) pa_nil)) (pa_cons (pe_call G_l_pairs (hr.mono (by omega)) rfl T.m_l_pairs T.F_l_pairs.kp T.B_l_pairs .nil pass0 (pa_cons (pv 4) pa_nil)) (pa_cons (pe_lc (own := [("_law_sign", 11)]) rfl sc_l_gone.nd (pi_str pe_str) (blkOk_by (own := [("_law_sign", 11)]) (N := N_l_gone) (sc := defScope s_l_gone) (by decide +kernel)) (fun _ _ _ _ _ => (pg_name (i := 11) sc_l_gone.nd rfl (Or.inl rfl))) (fun _ _ _ _ _ => pts_nil) (fun _ _ _ _ _ => (pe_dget hu (pv 3) (pv 11) (fun _ _ => rfl)))) pa_nil))))))) pss_nil)
      (pss_one (ps_if (pt_cmpR op_eq (pe_ix ix_tup (pv 8) pe_int (fun _ _ => rfl)) pe_str (nomark _)) (pss_one (ps_set (i := 7) sc_l_gone.nd rfl (Or.inl rfl) (pe_ix ix_tup (pv 8) pe_int (fun _ _ => rfl)))) (pss_one (ps_if (pt_cmpR op_eq (pe_ix ix_tup (pv 8) pe_int (fun _ _ => rfl)) pe_str (nomark _)) (pss_one (ps_set (i := 7) sc_l_gone.nd rfl (Or.inl rfl) (pe_ifExp (pt_cmpR op_eq (pe_dget hu (pv 3) (pe_ix ix_tup (pv 8) pe_int (fun _ _ => rfl)) (fun _ _ => rfl)) pe_int (nomark _)) (pe_ix ix_tup (pv 8) pe_int (fun _ _ => rfl)) (pv 7)))) (pss_one (ps_if (pt_cmpR op_eq (pe_ix ix_tup (pv 8) pe_int (fun _ _ => rfl)) pe_str (nomark _)) (pss_one (ps_expr (pe_bm0 PySem.F.plainAttrs_list PySem.F.slot_list_pop PySem.F.type_list_pop mt_pop (pv 6)))) (pss_one (ps_if (PW.pt (pw_or (pt_cmpR op_eq (pe_ix ix_tup (pv 8) pe_int (fun _ _ => rfl)) pe_str (nomark _)) (pw_or1 (pt_cmpR op_eq (pe_ix ix_tup (pv 8) pe_int (fun _ _ => rfl)) pe_str (nomark _))))) (pss_one (ps_expr (pe_bm PySem.F.plainAttrs_list PySem.F.slot_list_append PySem.F.type_list_append mt_append (pv 6) (pa_cons (pe_tup (pa_cons (pe_ix ix_tup (pv 8) pe_int (fun _ _ => rfl)) (pa_cons (pe_ix ix_tup (pv 8) pe_int (fun _ _ => rfl)) (pa_cons (pv 8) (pa_cons (pe_callTy call_dcopy (by rfl) T.b_dict (by decide +kernel) (pa_cons (pv 3) pa_nil)) (pa_cons (pe_callTy call_dcopy (by rfl) T.b_dict (by decide +kernel) (pa_cons (pv 4) pa_nil)) pa_nil)))))) pa_nil)))) (pss_one (ps_if (PW.pt (pw_or (pt_cmpR op_eq (pe_ix ix_tup (pv 8) pe_int (fun _ _ => rfl)) pe_str (nomark _)) (pw_or1 (pt_cmpR op_eq (pe_ix ix_tup (pv 8) pe_int (fun _ _ => rfl)) pe_str (nomark _))))) (pss_cons (ps_set (i := 9) sc_l_gone.nd rfl (Or.inl rfl) (pe_call G_l_mark (hr.mono (by omega)) rfl T.m_l_mark T.F_l_mark.kp T.B_l_mark .nil pass0 (pa_cons (pv 6) (pa_cons (pv 8) pa_nil))))
      (pss_cons (ps_if (pt_cmpR o_lt (pv 9) pe_int (nomark _)) (pss_one (ps_ret (pe_tup (pa_cons (pe_call G_l_end (hr.mono (by omega)) rfl T.m_l_end T.F_l_end.kp T.B_l_end .nil pass0 (pa_cons (pv 8) (pa_cons (pv 3) pa_nil))) (pa_cons (pe_call G_l_pairs (hr.mono (by omega)) rfl T.m_l_pairs T.F_l_pairs.kp T.B_l_pairs .nil pass0 (pa_cons (pv 5) pa_nil)) (pa_cons (pe_lst pa_nil) (pa_cons (pe_lc (own := [("_law_sign", 11)]) rfl sc_l_gone.nd (pi_str pe_str) (blkOk_by (own := [("_law_sign", 11)]) (N := N_l_gone) (sc := defScope s_l_gone) (by decide +kernel)) (fun _ _ _ _ _ => (pg_name (i := 11) sc_l_gone.nd rfl (Or.inl rfl))) (fun _ _ _ _ _ => pts_nil) (fun _ _ _ _ _ => (pe_dget hu (pv 2) (pv 11) (fun _ _ => rfl)))) pa_nil))))))) pss_nil)
      (pss_cons (ps_set (i := 10) sc_l_gone.nd rfl (Or.inl rfl) (pe_call G_l_end (hr.mono (by omega)) rfl T.m_l_end T.F_l_end.kp T.B_l_end .nil pass0 (pa_cons (pv 8) (pa_cons (pv 3) pa_nil))))
      (pss_cons (ps_set (i := 3) sc_l_gone.nd rfl (Or.inr rfl) (pe_callTy call_dcopy (by rfl) T.b_dict (by decide +kernel) (pa_cons (pe_ix ix_tup (pe_ix ix_list (pv 6) (pv 9) (fun _ _ => rfl)) pe_int (fun _ _ => rfl)) pa_nil)))
      (pss_cons (ps_set (i := 4) sc_l_gone.nd rfl (Or.inl rfl) (pe_callTy call_dcopy (by rfl) T.b_dict (by decide +kernel) (pa_cons (pe_ix ix_tup (pe_ix ix_list (pv 6) (pv 9) (fun _ _ => rfl)) pe_int (fun _ _ => rfl)) pa_nil)))
      (pss_cons (ps_set (i := 7) sc_l_gone.nd rfl (Or.inl rfl) (pe_ix ix_tup (pe_ix ix_tup (pe_ix ix_list (pv 6) (pv 9) (fun _ _ => rfl)) pe_int (fun _ _ => rfl)) (pe_un un_neg pe_int) (fun _ _ => rfl)))
      (pss_cons (ps_if (pt_cmpR op_eq (pe_ix ix_tup (pv 8) pe_int (fun _ _ => rfl)) pe_str (nomark _)) (pss_one (ps_dput hu (pv 3) (pe_ix ix_tup (pe_ix ix_tup (pe_ix ix_list (pv 6) (pv 9) (fun _ _ => rfl)) pe_int (fun _ _ => rfl)) pe_int (fun _ _ => rfl)) (pe_ix ix_tup (pv 10) pe_int (fun _ _ => rfl)) rfl)) pss_nil)
      (pss_one (ps_set (i := 6) sc_l_gone.nd rfl (Or.inl rfl) (pe_slice sl_list (pv 6) po_none (po_some (pv 9)))))))))))) (pss_one (ps_if (pt_not (pt_val (pe_call G_l_plain_row (hr.mono (by omega)) rfl T.m_l_plain_row T.F_l_plain_row.kp T.B_l_plain_row .nil pass0 (pa_cons (pv 8) (pa_cons (pv 1) (pa_cons (pv 5) (pa_cons (pv 3) (pa_cons (pv 4) pa_nil)))))))) (pss_one (ps_ret pe_non)) pss_nil))))))))))))))))
      (pss_one (ps_ret pe_non))))))))
theorem ok_law (T : Txt d mg z) : FnOk P w d.K mg base CX0 66 z.f_law z.d_law ["_law_script"] (sp_law d) := by
  have G_l_names := ok_l_names (P := P) (w := w) (base := base) T
  have G_l_made := ok_l_made (P := P) (w := w) (base := base) T
  have G_l_tree := ok_l_tree (P := P) (w := w) (base := base) T
  have G_l_boxes := ok_l_boxes (P := P) (w := w) (base := base) T
  have G_l_slots := ok_l_slots (P := P) (w := w) (base := base) T
  have G_l_gone := ok_l_gone (P := P) (w := w) (base := base) T
  have G_rows_of := ok_rows_of (P := P) (w := w) (base := base) T
  have G_l_alike := ok_l_alike (P := P) (w := w) (base := base) T
  have G_alone := ok_alone (P := P) (w := w) (base := base) T
  refine T.F_law.ok sc_law (fun vs H Q E h => by first | (exact lift_len (fun ds W Q h => by first | (obtain ⟨rfl, _⟩ := h; rfl) | (obtain ⟨_, rfl, _⟩ := h; rfl) | (obtain ⟨_, _, rfl, _⟩ := h; rfl) | (obtain ⟨_, _, _, rfl, _⟩ := h; rfl) | (obtain ⟨_, _, _, _, rfl, _⟩ := h; rfl) | (obtain ⟨_, _, _, _, _, rfl, _⟩ := h; rfl) | (obtain ⟨_, _, _, _, _, _, rfl, _⟩ := h; rfl) | (obtain ⟨_, _, _, _, _, _, _, rfl, _⟩ := h; rfl) | (obtain ⟨_, _, _, _, _, _, _, _, rfl, _⟩ := h; rfl) | (obtain ⟨_, _, _, _, _, _, _, _, _, rfl, _⟩ := h; rfl) | (obtain ⟨_, _, _, _, _, _, _, _, _, _, rfl, _⟩ := h; rfl)) h) | (obtain ⟨rfl, _⟩ := h; rfl) | (obtain ⟨_, rfl, _⟩ := h; rfl) | (obtain ⟨_, _, rfl, _⟩ := h; rfl) | (obtain ⟨_, _, _, rfl, _⟩ := h; rfl) | (obtain ⟨_, _, _, _, rfl, _⟩ := h; rfl) | (obtain ⟨_, _, _, _, _, rfl, _⟩ := h; rfl) | (obtain ⟨_, _, _, _, _, _, rfl, _⟩ := h; rfl) | (obtain ⟨_, _, _, _, _, _, _, rfl, _⟩ := h; rfl) | (obtain ⟨_, _, _, _, _, _, _, _, rfl, _⟩ := h; rfl) | (obtain ⟨_, _, _, _, _, _, _, _, _, rfl, _⟩ := h; rfl) | (obtain ⟨_, _, _, _, _, _, _, _, _, _, rfl, _⟩ := h; rfl)) (fun cdv A outer s H vs Q E hr h => ⟨t_law d, ?_, pure_law  h⟩)
  have hu := hu_of hr
  exact (pss_cons (ps_set (i := 1) sc_law.nd rfl (Or.inl rfl) (pe_call G_l_names (hr.mono (by omega)) rfl T.m_l_names T.F_l_names.kp T.B_l_names .nil pass0 (pa_cons (pe_callB (cr_sum rfl) (by rfl) T.b_sum (by decide +kernel) (pa_cons (pe_slice sl_list (pv 0) po_none (po_some pe_int)) pa_nil)) pa_nil)))
      (pss_cons (ps_for PassesOwn.never rfl (pi_range3 rfl T.b_range (pa_cons pe_int (pa_cons (pe_callB (call_max2 rfl) (by rfl) T.b_max (by decide +kernel) (pa_cons pe_int (pa_cons (pe_callB call_len_seq (by rfl) T.b_len (by decide +kernel) (pa_cons (pv 0) pa_nil)) pa_nil))) (pa_cons pe_int pa_nil)))) (pg_name (i := 2) sc_law.nd rfl (Or.inl rfl)) (pss_cons (ps_set (i := 3) sc_law.nd rfl (Or.inl rfl) (pe_slice sl_list (pv 0) (po_some (pv 2)) (po_some (pe_op op_add (pv 2) pe_int))))
      (pss_cons (ps_set (i := 4) sc_law.nd rfl (Or.inl rfl) (pe_call G_l_made (hr.mono (by omega)) rfl T.m_l_made T.F_l_made.kp T.B_l_made .nil pass0 (pa_cons (pe_call G_l_tree (hr.mono (by omega)) rfl T.m_l_tree T.F_l_tree.kp T.B_l_tree .nil pass0 (pa_cons (pv 3) (pa_cons pe_int (pa_cons (pv 1) pa_nil)))) pa_nil)))
      (pss_cons (ps_set (i := 5) sc_law.nd rfl (Or.inl rfl) (pe_call G_l_boxes (hr.mono (by omega)) rfl T.m_l_boxes T.F_l_boxes.kp T.B_l_boxes .nil pass0 (pa_cons (pe_op op_add (pe_callB (cr_sum rfl) (by rfl) T.b_sum (by decide +kernel) (pa_cons (pe_slice sl_list (pv 3) (po_some pe_int) (po_some pe_int)) pa_nil)) (pv 2)) pa_nil)))
      (pss_cons (ps_set (i := 6) sc_law.nd rfl (Or.inl rfl) (pe_call G_l_slots (hr.mono (by omega)) rfl T.m_l_slots T.F_l_slots.kp T.B_l_slots .nil pass0 (pa_cons (pe_op op_add (pe_callB (cr_sum rfl) (by rfl) T.b_sum (by decide +kernel) (pa_cons (pe_slice sl_list (pv 3) po_none (po_some pe_int)) pa_nil)) (pv 2)) pa_nil)))
      (pss_cons (ps_set (i := 7) sc_law.nd rfl (Or.inl rfl) pe_dnewK)
      (pss_cons (ps_for PassesOwn.never rfl (pi_range1 rfl T.b_range (pa_cons pe_int pa_nil)) (pg_name (i := 8) sc_law.nd rfl (Or.inl rfl)) (pss_one (ps_dput hu (pv 7) (pe_ix ix_str pe_str (pv 8) (fun _ _ => rfl)) (pe_ix ix_list (pv 6) (pv 8) (fun _ _ => rfl)) rfl)))
      (pss_cons (ps_set (i := 9) sc_law.nd rfl (Or.inl rfl) (pe_call G_l_gone (hr.mono (by omega)) rfl T.m_l_gone T.F_l_gone.kp T.B_l_gone .nil pass0 (pa_cons (pe_call G_rows_of (hr.mono (by omega)) rfl T.m_rows_of T.F_rows_of.kp T.B_rows_of .nil pass0 (pa_cons (pv 4) pa_nil)) (pa_cons (pv 5) (pa_cons (pv 7) pa_nil)))))
      (pss_one (ps_if (PW.pt (pw_or (pt_cmpR op_isN (pv 9) pe_non (nomark _)) (pw_or1 (pt_not (pt_val (pe_call G_l_alike (hr.mono (by omega)) rfl T.m_l_alike T.F_l_alike.kp T.B_l_alike .nil pass0 (pa_cons (pe_call G_alone (hr.mono (by omega)) rfl T.m_alone T.F_alone.kp T.B_alone .nil pass0 (pa_cons (pv 4) (pa_cons (pe_callTy call_list_of (by rfl) T.b_list (by decide +kernel) (pa_cons (pv 5) pa_nil)) (pa_cons (pe_callTy call_list_of (by rfl) T.b_list (by decide +kernel) (pa_cons (pv 6) pa_nil)) pa_nil)))) (pa_cons (pv 9) pa_nil)))))))) (pss_one (ps_ret pe_bl)) pss_nil))))))))))
      (pss_one (ps_ret pe_bl))))
end
theorem all_mk {P : Program} {w : World} {K : PySem.W.Frag} {h : Heap} {mg : Str → Option Value} {fa : Addr} (X : K.In h) (G : h.Ns mainGlobals mg) (hfa : mg "law" = some (.ref fa))
    {f_Let_init f_Reckon_init f_Take_init f_Put_init f_If_init f_Either_init f_Try_init f_Throw_init f_plain_row f_two_sides f_part_rows f_rows_from f_rows_of f_by_boxes f_Log_init f_Log_write f_Log_own f_Log_begin f_Log_settle f_Log_drop f_Log_see f_Log_saw f_Log_wrote f_reckon f_Doer_init f_Doer_look f_Doer_give f_Doer_box_at f_Doer_take_in f_Doer_do_plain f_Doer_do_either f_Doer_do_try f_Doer_do_part f_Doer_do_all f_alone f_l_mixed f_l_wide f_l_names f_l_alike f_l_plain f_l_sided f_l_tree f_l_made f_l_boxes f_l_slots f_l_sum f_l_pairs f_l_mark f_l_end f_l_plain_row f_l_gone f_law c_Let c_Reckon c_Take c_Put c_If c_Either c_Try c_Throw c_Log c_Doer c_Wait : Addr} {oc_Let_init kV_Let_init dc_Let_init pm_Let_init cd_Let_init ct_Let_init oc_Reckon_init kV_Reckon_init dc_Reckon_init pm_Reckon_init cd_Reckon_init ct_Reckon_init oc_Take_init kV_Take_init dc_Take_init pm_Take_init cd_Take_init ct_Take_init oc_Put_init kV_Put_init dc_Put_init pm_Put_init cd_Put_init ct_Put_init oc_If_init kV_If_init dc_If_init pm_If_init cd_If_init ct_If_init oc_Either_init kV_Either_init dc_Either_init pm_Either_init cd_Either_init ct_Either_init oc_Try_init kV_Try_init dc_Try_init pm_Try_init cd_Try_init ct_Try_init oc_Throw_init kV_Throw_init dc_Throw_init pm_Throw_init cd_Throw_init ct_Throw_init oc_plain_row kV_plain_row dc_plain_row pm_plain_row cd_plain_row ct_plain_row oc_two_sides kV_two_sides dc_two_sides pm_two_sides cd_two_sides ct_two_sides oc_part_rows kV_part_rows dc_part_rows pm_part_rows cd_part_rows ct_part_rows oc_rows_from kV_rows_from dc_rows_from pm_rows_from cd_rows_from ct_rows_from oc_rows_of kV_rows_of dc_rows_of pm_rows_of cd_rows_of ct_rows_of oc_by_boxes kV_by_boxes dc_by_boxes pm_by_boxes cd_by_boxes ct_by_boxes oc_Log_init kV_Log_init dc_Log_init pm_Log_init cd_Log_init ct_Log_init oc_Log_write kV_Log_write dc_Log_write pm_Log_write cd_Log_write ct_Log_write oc_Log_own kV_Log_own dc_Log_own pm_Log_own cd_Log_own ct_Log_own oc_Log_begin kV_Log_begin dc_Log_begin pm_Log_begin cd_Log_begin ct_Log_begin oc_Log_settle kV_Log_settle dc_Log_settle pm_Log_settle cd_Log_settle ct_Log_settle oc_Log_drop kV_Log_drop dc_Log_drop pm_Log_drop cd_Log_drop ct_Log_drop oc_Log_see kV_Log_see dc_Log_see pm_Log_see cd_Log_see ct_Log_see oc_Log_saw kV_Log_saw dc_Log_saw pm_Log_saw cd_Log_saw ct_Log_saw oc_Log_wrote kV_Log_wrote dc_Log_wrote pm_Log_wrote cd_Log_wrote ct_Log_wrote oc_reckon kV_reckon dc_reckon pm_reckon cd_reckon ct_reckon oc_Doer_init kV_Doer_init dc_Doer_init pm_Doer_init cd_Doer_init ct_Doer_init oc_Doer_look kV_Doer_look dc_Doer_look pm_Doer_look cd_Doer_look ct_Doer_look oc_Doer_give kV_Doer_give dc_Doer_give pm_Doer_give cd_Doer_give ct_Doer_give oc_Doer_box_at kV_Doer_box_at dc_Doer_box_at pm_Doer_box_at cd_Doer_box_at ct_Doer_box_at oc_Doer_take_in kV_Doer_take_in dc_Doer_take_in pm_Doer_take_in cd_Doer_take_in ct_Doer_take_in oc_Doer_do_plain kV_Doer_do_plain dc_Doer_do_plain pm_Doer_do_plain cd_Doer_do_plain ct_Doer_do_plain oc_Doer_do_either kV_Doer_do_either dc_Doer_do_either pm_Doer_do_either cd_Doer_do_either ct_Doer_do_either oc_Doer_do_try kV_Doer_do_try dc_Doer_do_try pm_Doer_do_try cd_Doer_do_try ct_Doer_do_try oc_Doer_do_part kV_Doer_do_part dc_Doer_do_part pm_Doer_do_part cd_Doer_do_part ct_Doer_do_part oc_Doer_do_all kV_Doer_do_all dc_Doer_do_all pm_Doer_do_all cd_Doer_do_all ct_Doer_do_all oc_alone kV_alone dc_alone pm_alone cd_alone ct_alone oc_l_mixed kV_l_mixed dc_l_mixed pm_l_mixed cd_l_mixed ct_l_mixed oc_l_wide kV_l_wide dc_l_wide pm_l_wide cd_l_wide ct_l_wide oc_l_names kV_l_names dc_l_names pm_l_names cd_l_names ct_l_names oc_l_alike kV_l_alike dc_l_alike pm_l_alike cd_l_alike ct_l_alike oc_l_plain kV_l_plain dc_l_plain pm_l_plain cd_l_plain ct_l_plain oc_l_sided kV_l_sided dc_l_sided pm_l_sided cd_l_sided ct_l_sided oc_l_tree kV_l_tree dc_l_tree pm_l_tree cd_l_tree ct_l_tree oc_l_made kV_l_made dc_l_made pm_l_made cd_l_made ct_l_made oc_l_boxes kV_l_boxes dc_l_boxes pm_l_boxes cd_l_boxes ct_l_boxes oc_l_slots kV_l_slots dc_l_slots pm_l_slots cd_l_slots ct_l_slots oc_l_sum kV_l_sum dc_l_sum pm_l_sum cd_l_sum ct_l_sum oc_l_pairs kV_l_pairs dc_l_pairs pm_l_pairs cd_l_pairs ct_l_pairs oc_l_mark kV_l_mark dc_l_mark pm_l_mark cd_l_mark ct_l_mark oc_l_end kV_l_end dc_l_end pm_l_end cd_l_end ct_l_end oc_l_plain_row kV_l_plain_row dc_l_plain_row pm_l_plain_row cd_l_plain_row ct_l_plain_row oc_l_gone kV_l_gone dc_l_gone pm_l_gone cd_l_gone ct_l_gone oc_law kV_law dc_law pm_law cd_law ct_law : Value} {od_Let_init an_Let_init od_Reckon_init an_Reckon_init od_Take_init an_Take_init od_Put_init an_Put_init od_If_init an_If_init od_Either_init an_Either_init od_Try_init an_Try_init od_Throw_init an_Throw_init od_plain_row an_plain_row od_two_sides an_two_sides od_part_rows an_part_rows od_rows_from an_rows_from od_rows_of an_rows_of od_by_boxes an_by_boxes od_Log_init an_Log_init od_Log_write an_Log_write od_Log_own an_Log_own od_Log_begin an_Log_begin od_Log_settle an_Log_settle od_Log_drop an_Log_drop od_Log_see an_Log_see od_Log_saw an_Log_saw od_Log_wrote an_Log_wrote od_reckon an_reckon od_Doer_init an_Doer_init od_Doer_look an_Doer_look od_Doer_give an_Doer_give od_Doer_box_at an_Doer_box_at od_Doer_take_in an_Doer_take_in od_Doer_do_plain an_Doer_do_plain od_Doer_do_either an_Doer_do_either od_Doer_do_try an_Doer_do_try od_Doer_do_part an_Doer_do_part od_Doer_do_all an_Doer_do_all od_alone an_alone od_l_mixed an_l_mixed od_l_wide an_l_wide od_l_names an_l_names od_l_alike an_l_alike od_l_plain an_l_plain od_l_sided an_l_sided od_l_tree an_l_tree od_l_made an_l_made od_l_boxes an_l_boxes od_l_slots an_l_slots od_l_sum an_l_sum od_l_pairs an_l_pairs od_l_mark an_l_mark od_l_end an_l_end od_l_plain_row an_l_plain_row od_l_gone an_l_gone od_law an_law : Option Addr} {sl_Let_init sl_Reckon_init sl_Take_init sl_Put_init sl_If_init sl_Either_init sl_Try_init sl_Throw_init sl_plain_row sl_two_sides sl_part_rows sl_rows_from sl_rows_of sl_by_boxes sl_Log_init sl_Log_write sl_Log_own sl_Log_begin sl_Log_settle sl_Log_drop sl_Log_see sl_Log_saw sl_Log_wrote sl_reckon sl_Doer_init sl_Doer_look sl_Doer_give sl_Doer_box_at sl_Doer_take_in sl_Doer_do_plain sl_Doer_do_either sl_Doer_do_try sl_Doer_do_part sl_Doer_do_all sl_alone sl_l_mixed sl_l_wide sl_l_names sl_l_alike sl_l_plain sl_l_sided sl_l_tree sl_l_made sl_l_boxes sl_l_slots sl_l_sum sl_l_pairs sl_l_mark sl_l_end sl_l_plain_row sl_l_gone sl_law : Array (Option Value)}
    {k_LETTERS k_WIDE : Tok}
    (a_Let_init : PySem.W.findIn K (.ref c_Let) "__init__" = some (some (.ref f_Let_init)))
    (i_Let_init : PySem.W.isFn K (.ref f_Let_init) = true)
    (l_Let_init : K.lookup f_Let_init = some ⟨oc_Let_init, od_Let_init, .func (PySem.W.fnOf "__init__" "Let.__init__" (defArgs s_Let_init) (defBody s_Let_init) (defScope s_Let_init) .none kV_Let_init dc_Let_init pm_Let_init an_Let_init cd_Let_init ct_Let_init), sl_Let_init⟩)
    (cc_Let_init : PySem.W.codeIn K cd_Let_init "Let.__init__" = true)
    (kk_Let_init : PySem.W.keepIn K (.ref f_Let_init) = true)
    (a_Reckon_init : PySem.W.findIn K (.ref c_Reckon) "__init__" = some (some (.ref f_Reckon_init)))
    (i_Reckon_init : PySem.W.isFn K (.ref f_Reckon_init) = true)
    (l_Reckon_init : K.lookup f_Reckon_init = some ⟨oc_Reckon_init, od_Reckon_init, .func (PySem.W.fnOf "__init__" "Reckon.__init__" (defArgs s_Reckon_init) (defBody s_Reckon_init) (defScope s_Reckon_init) .none kV_Reckon_init dc_Reckon_init pm_Reckon_init an_Reckon_init cd_Reckon_init ct_Reckon_init), sl_Reckon_init⟩)
    (cc_Reckon_init : PySem.W.codeIn K cd_Reckon_init "Reckon.__init__" = true)
    (kk_Reckon_init : PySem.W.keepIn K (.ref f_Reckon_init) = true)
    (a_Take_init : PySem.W.findIn K (.ref c_Take) "__init__" = some (some (.ref f_Take_init)))
    (i_Take_init : PySem.W.isFn K (.ref f_Take_init) = true)
    (l_Take_init : K.lookup f_Take_init = some ⟨oc_Take_init, od_Take_init, .func (PySem.W.fnOf "__init__" "Take.__init__" (defArgs s_Take_init) (defBody s_Take_init) (defScope s_Take_init) .none kV_Take_init dc_Take_init pm_Take_init an_Take_init cd_Take_init ct_Take_init), sl_Take_init⟩)
    (cc_Take_init : PySem.W.codeIn K cd_Take_init "Take.__init__" = true)
    (kk_Take_init : PySem.W.keepIn K (.ref f_Take_init) = true)
    (a_Put_init : PySem.W.findIn K (.ref c_Put) "__init__" = some (some (.ref f_Put_init)))
    (i_Put_init : PySem.W.isFn K (.ref f_Put_init) = true)
    (l_Put_init : K.lookup f_Put_init = some ⟨oc_Put_init, od_Put_init, .func (PySem.W.fnOf "__init__" "Put.__init__" (defArgs s_Put_init) (defBody s_Put_init) (defScope s_Put_init) .none kV_Put_init dc_Put_init pm_Put_init an_Put_init cd_Put_init ct_Put_init), sl_Put_init⟩)
    (cc_Put_init : PySem.W.codeIn K cd_Put_init "Put.__init__" = true)
    (kk_Put_init : PySem.W.keepIn K (.ref f_Put_init) = true)
    (a_If_init : PySem.W.findIn K (.ref c_If) "__init__" = some (some (.ref f_If_init)))
    (i_If_init : PySem.W.isFn K (.ref f_If_init) = true)
    (l_If_init : K.lookup f_If_init = some ⟨oc_If_init, od_If_init, .func (PySem.W.fnOf "__init__" "If.__init__" (defArgs s_If_init) (defBody s_If_init) (defScope s_If_init) .none kV_If_init dc_If_init pm_If_init an_If_init cd_If_init ct_If_init), sl_If_init⟩)
    (cc_If_init : PySem.W.codeIn K cd_If_init "If.__init__" = true)
    (kk_If_init : PySem.W.keepIn K (.ref f_If_init) = true)
    (a_Either_init : PySem.W.findIn K (.ref c_Either) "__init__" = some (some (.ref f_Either_init)))
    (i_Either_init : PySem.W.isFn K (.ref f_Either_init) = true)
    (l_Either_init : K.lookup f_Either_init = some ⟨oc_Either_init, od_Either_init, .func (PySem.W.fnOf "__init__" "Either.__init__" (defArgs s_Either_init) (defBody s_Either_init) (defScope s_Either_init) .none kV_Either_init dc_Either_init pm_Either_init an_Either_init cd_Either_init ct_Either_init), sl_Either_init⟩)
    (cc_Either_init : PySem.W.codeIn K cd_Either_init "Either.__init__" = true)
    (kk_Either_init : PySem.W.keepIn K (.ref f_Either_init) = true)
    (a_Try_init : PySem.W.findIn K (.ref c_Try) "__init__" = some (some (.ref f_Try_init)))
    (i_Try_init : PySem.W.isFn K (.ref f_Try_init) = true)
    (l_Try_init : K.lookup f_Try_init = some ⟨oc_Try_init, od_Try_init, .func (PySem.W.fnOf "__init__" "Try.__init__" (defArgs s_Try_init) (defBody s_Try_init) (defScope s_Try_init) .none kV_Try_init dc_Try_init pm_Try_init an_Try_init cd_Try_init ct_Try_init), sl_Try_init⟩)
    (cc_Try_init : PySem.W.codeIn K cd_Try_init "Try.__init__" = true)
    (kk_Try_init : PySem.W.keepIn K (.ref f_Try_init) = true)
    (a_Throw_init : PySem.W.findIn K (.ref c_Throw) "__init__" = some (some (.ref f_Throw_init)))
    (i_Throw_init : PySem.W.isFn K (.ref f_Throw_init) = true)
    (l_Throw_init : K.lookup f_Throw_init = some ⟨oc_Throw_init, od_Throw_init, .func (PySem.W.fnOf "__init__" "Throw.__init__" (defArgs s_Throw_init) (defBody s_Throw_init) (defScope s_Throw_init) .none kV_Throw_init dc_Throw_init pm_Throw_init an_Throw_init cd_Throw_init ct_Throw_init), sl_Throw_init⟩)
    (cc_Throw_init : PySem.W.codeIn K cd_Throw_init "Throw.__init__" = true)
    (kk_Throw_init : PySem.W.keepIn K (.ref f_Throw_init) = true)
    (a_plain_row : PySem.W.nsIn K mainGlobals "plain_row" = some (some (.ref f_plain_row)))
    (l_plain_row : K.lookup f_plain_row = some ⟨oc_plain_row, od_plain_row, .func (PySem.W.fnOf "plain_row" "plain_row" (defArgs s_plain_row) (defBody s_plain_row) (defScope s_plain_row) .none kV_plain_row dc_plain_row pm_plain_row an_plain_row cd_plain_row ct_plain_row), sl_plain_row⟩)
    (cc_plain_row : PySem.W.codeIn K cd_plain_row "plain_row" = true)
    (kk_plain_row : PySem.W.keepIn K (.ref f_plain_row) = true)
    (a_two_sides : PySem.W.nsIn K mainGlobals "two_sides" = some (some (.ref f_two_sides)))
    (l_two_sides : K.lookup f_two_sides = some ⟨oc_two_sides, od_two_sides, .func (PySem.W.fnOf "two_sides" "two_sides" (defArgs s_two_sides) (defBody s_two_sides) (defScope s_two_sides) .none kV_two_sides dc_two_sides pm_two_sides an_two_sides cd_two_sides ct_two_sides), sl_two_sides⟩)
    (cc_two_sides : PySem.W.codeIn K cd_two_sides "two_sides" = true)
    (kk_two_sides : PySem.W.keepIn K (.ref f_two_sides) = true)
    (a_part_rows : PySem.W.nsIn K mainGlobals "part_rows" = some (some (.ref f_part_rows)))
    (l_part_rows : K.lookup f_part_rows = some ⟨oc_part_rows, od_part_rows, .func (PySem.W.fnOf "part_rows" "part_rows" (defArgs s_part_rows) (defBody s_part_rows) (defScope s_part_rows) .none kV_part_rows dc_part_rows pm_part_rows an_part_rows cd_part_rows ct_part_rows), sl_part_rows⟩)
    (cc_part_rows : PySem.W.codeIn K cd_part_rows "part_rows" = true)
    (kk_part_rows : PySem.W.keepIn K (.ref f_part_rows) = true)
    (a_rows_from : PySem.W.nsIn K mainGlobals "rows_from" = some (some (.ref f_rows_from)))
    (l_rows_from : K.lookup f_rows_from = some ⟨oc_rows_from, od_rows_from, .func (PySem.W.fnOf "rows_from" "rows_from" (defArgs s_rows_from) (defBody s_rows_from) (defScope s_rows_from) .none kV_rows_from dc_rows_from pm_rows_from an_rows_from cd_rows_from ct_rows_from), sl_rows_from⟩)
    (cc_rows_from : PySem.W.codeIn K cd_rows_from "rows_from" = true)
    (kk_rows_from : PySem.W.keepIn K (.ref f_rows_from) = true)
    (a_rows_of : PySem.W.nsIn K mainGlobals "rows_of" = some (some (.ref f_rows_of)))
    (l_rows_of : K.lookup f_rows_of = some ⟨oc_rows_of, od_rows_of, .func (PySem.W.fnOf "rows_of" "rows_of" (defArgs s_rows_of) (defBody s_rows_of) (defScope s_rows_of) .none kV_rows_of dc_rows_of pm_rows_of an_rows_of cd_rows_of ct_rows_of), sl_rows_of⟩)
    (cc_rows_of : PySem.W.codeIn K cd_rows_of "rows_of" = true)
    (kk_rows_of : PySem.W.keepIn K (.ref f_rows_of) = true)
    (a_by_boxes : PySem.W.nsIn K mainGlobals "by_boxes" = some (some (.ref f_by_boxes)))
    (l_by_boxes : K.lookup f_by_boxes = some ⟨oc_by_boxes, od_by_boxes, .func (PySem.W.fnOf "by_boxes" "by_boxes" (defArgs s_by_boxes) (defBody s_by_boxes) (defScope s_by_boxes) .none kV_by_boxes dc_by_boxes pm_by_boxes an_by_boxes cd_by_boxes ct_by_boxes), sl_by_boxes⟩)
    (cc_by_boxes : PySem.W.codeIn K cd_by_boxes "by_boxes" = true)
    (kk_by_boxes : PySem.W.keepIn K (.ref f_by_boxes) = true)
    (a_Log_init : PySem.W.findIn K (.ref c_Log) "__init__" = some (some (.ref f_Log_init)))
    (i_Log_init : PySem.W.isFn K (.ref f_Log_init) = true)
    (l_Log_init : K.lookup f_Log_init = some ⟨oc_Log_init, od_Log_init, .func (PySem.W.fnOf "__init__" "Log.__init__" (defArgs s_Log_init) (defBody s_Log_init) (defScope s_Log_init) .none kV_Log_init dc_Log_init pm_Log_init an_Log_init cd_Log_init ct_Log_init), sl_Log_init⟩)
    (cc_Log_init : PySem.W.codeIn K cd_Log_init "Log.__init__" = true)
    (kk_Log_init : PySem.W.keepIn K (.ref f_Log_init) = true)
    (a_Log_write : PySem.W.findIn K (.ref c_Log) "write" = some (some (.ref f_Log_write)))
    (i_Log_write : PySem.W.isFn K (.ref f_Log_write) = true)
    (l_Log_write : K.lookup f_Log_write = some ⟨oc_Log_write, od_Log_write, .func (PySem.W.fnOf "write" "Log.write" (defArgs s_Log_write) (defBody s_Log_write) (defScope s_Log_write) .none kV_Log_write dc_Log_write pm_Log_write an_Log_write cd_Log_write ct_Log_write), sl_Log_write⟩)
    (cc_Log_write : PySem.W.codeIn K cd_Log_write "Log.write" = true)
    (kk_Log_write : PySem.W.keepIn K (.ref f_Log_write) = true)
    (a_Log_own : PySem.W.findIn K (.ref c_Log) "own" = some (some (.ref f_Log_own)))
    (i_Log_own : PySem.W.isFn K (.ref f_Log_own) = true)
    (l_Log_own : K.lookup f_Log_own = some ⟨oc_Log_own, od_Log_own, .func (PySem.W.fnOf "own" "Log.own" (defArgs s_Log_own) (defBody s_Log_own) (defScope s_Log_own) .none kV_Log_own dc_Log_own pm_Log_own an_Log_own cd_Log_own ct_Log_own), sl_Log_own⟩)
    (cc_Log_own : PySem.W.codeIn K cd_Log_own "Log.own" = true)
    (kk_Log_own : PySem.W.keepIn K (.ref f_Log_own) = true)
    (a_Log_begin : PySem.W.findIn K (.ref c_Log) "begin" = some (some (.ref f_Log_begin)))
    (i_Log_begin : PySem.W.isFn K (.ref f_Log_begin) = true)
    (l_Log_begin : K.lookup f_Log_begin = some ⟨oc_Log_begin, od_Log_begin, .func (PySem.W.fnOf "begin" "Log.begin" (defArgs s_Log_begin) (defBody s_Log_begin) (defScope s_Log_begin) .none kV_Log_begin dc_Log_begin pm_Log_begin an_Log_begin cd_Log_begin ct_Log_begin), sl_Log_begin⟩)
    (cc_Log_begin : PySem.W.codeIn K cd_Log_begin "Log.begin" = true)
    (kk_Log_begin : PySem.W.keepIn K (.ref f_Log_begin) = true)
    (a_Log_settle : PySem.W.findIn K (.ref c_Log) "settle" = some (some (.ref f_Log_settle)))
    (i_Log_settle : PySem.W.isFn K (.ref f_Log_settle) = true)
    (l_Log_settle : K.lookup f_Log_settle = some ⟨oc_Log_settle, od_Log_settle, .func (PySem.W.fnOf "settle" "Log.settle" (defArgs s_Log_settle) (defBody s_Log_settle) (defScope s_Log_settle) .none kV_Log_settle dc_Log_settle pm_Log_settle an_Log_settle cd_Log_settle ct_Log_settle), sl_Log_settle⟩)
    (cc_Log_settle : PySem.W.codeIn K cd_Log_settle "Log.settle" = true)
    (kk_Log_settle : PySem.W.keepIn K (.ref f_Log_settle) = true)
    (a_Log_drop : PySem.W.findIn K (.ref c_Log) "drop" = some (some (.ref f_Log_drop)))
    (i_Log_drop : PySem.W.isFn K (.ref f_Log_drop) = true)
    (l_Log_drop : K.lookup f_Log_drop = some ⟨oc_Log_drop, od_Log_drop, .func (PySem.W.fnOf "drop" "Log.drop" (defArgs s_Log_drop) (defBody s_Log_drop) (defScope s_Log_drop) .none kV_Log_drop dc_Log_drop pm_Log_drop an_Log_drop cd_Log_drop ct_Log_drop), sl_Log_drop⟩)
    (cc_Log_drop : PySem.W.codeIn K cd_Log_drop "Log.drop" = true)
    (kk_Log_drop : PySem.W.keepIn K (.ref f_Log_drop) = true)
    (a_Log_see : PySem.W.findIn K (.ref c_Log) "see" = some (some (.ref f_Log_see)))
    (i_Log_see : PySem.W.isFn K (.ref f_Log_see) = true)
    (l_Log_see : K.lookup f_Log_see = some ⟨oc_Log_see, od_Log_see, .func (PySem.W.fnOf "see" "Log.see" (defArgs s_Log_see) (defBody s_Log_see) (defScope s_Log_see) .none kV_Log_see dc_Log_see pm_Log_see an_Log_see cd_Log_see ct_Log_see), sl_Log_see⟩)
    (cc_Log_see : PySem.W.codeIn K cd_Log_see "Log.see" = true)
    (kk_Log_see : PySem.W.keepIn K (.ref f_Log_see) = true)
    (a_Log_saw : PySem.W.findIn K (.ref c_Log) "saw" = some (some (.ref f_Log_saw)))
    (i_Log_saw : PySem.W.isFn K (.ref f_Log_saw) = true)
    (l_Log_saw : K.lookup f_Log_saw = some ⟨oc_Log_saw, od_Log_saw, .func (PySem.W.fnOf "saw" "Log.saw" (defArgs s_Log_saw) (defBody s_Log_saw) (defScope s_Log_saw) .none kV_Log_saw dc_Log_saw pm_Log_saw an_Log_saw cd_Log_saw ct_Log_saw), sl_Log_saw⟩)
    (cc_Log_saw : PySem.W.codeIn K cd_Log_saw "Log.saw" = true)
    (kk_Log_saw : PySem.W.keepIn K (.ref f_Log_saw) = true)
    (a_Log_wrote : PySem.W.findIn K (.ref c_Log) "wrote" = some (some (.ref f_Log_wrote)))
    (i_Log_wrote : PySem.W.isFn K (.ref f_Log_wrote) = true)
    (l_Log_wrote : K.lookup f_Log_wrote = some ⟨oc_Log_wrote, od_Log_wrote, .func (PySem.W.fnOf "wrote" "Log.wrote" (defArgs s_Log_wrote) (defBody s_Log_wrote) (defScope s_Log_wrote) .none kV_Log_wrote dc_Log_wrote pm_Log_wrote an_Log_wrote cd_Log_wrote ct_Log_wrote), sl_Log_wrote⟩)
    (cc_Log_wrote : PySem.W.codeIn K cd_Log_wrote "Log.wrote" = true)
    (kk_Log_wrote : PySem.W.keepIn K (.ref f_Log_wrote) = true)
    (a_reckon : PySem.W.nsIn K mainGlobals "reckon" = some (some (.ref f_reckon)))
    (l_reckon : K.lookup f_reckon = some ⟨oc_reckon, od_reckon, .func (PySem.W.fnOf "reckon" "reckon" (defArgs s_reckon) (defBody s_reckon) (defScope s_reckon) .none kV_reckon dc_reckon pm_reckon an_reckon cd_reckon ct_reckon), sl_reckon⟩)
    (cc_reckon : PySem.W.codeIn K cd_reckon "reckon" = true)
    (kk_reckon : PySem.W.keepIn K (.ref f_reckon) = true)
    (a_Doer_init : PySem.W.findIn K (.ref c_Doer) "__init__" = some (some (.ref f_Doer_init)))
    (i_Doer_init : PySem.W.isFn K (.ref f_Doer_init) = true)
    (l_Doer_init : K.lookup f_Doer_init = some ⟨oc_Doer_init, od_Doer_init, .func (PySem.W.fnOf "__init__" "Doer.__init__" (defArgs s_Doer_init) (defBody s_Doer_init) (defScope s_Doer_init) .none kV_Doer_init dc_Doer_init pm_Doer_init an_Doer_init cd_Doer_init ct_Doer_init), sl_Doer_init⟩)
    (cc_Doer_init : PySem.W.codeIn K cd_Doer_init "Doer.__init__" = true)
    (kk_Doer_init : PySem.W.keepIn K (.ref f_Doer_init) = true)
    (a_Doer_look : PySem.W.findIn K (.ref c_Doer) "look" = some (some (.ref f_Doer_look)))
    (i_Doer_look : PySem.W.isFn K (.ref f_Doer_look) = true)
    (l_Doer_look : K.lookup f_Doer_look = some ⟨oc_Doer_look, od_Doer_look, .func (PySem.W.fnOf "look" "Doer.look" (defArgs s_Doer_look) (defBody s_Doer_look) (defScope s_Doer_look) .none kV_Doer_look dc_Doer_look pm_Doer_look an_Doer_look cd_Doer_look ct_Doer_look), sl_Doer_look⟩)
    (cc_Doer_look : PySem.W.codeIn K cd_Doer_look "Doer.look" = true)
    (kk_Doer_look : PySem.W.keepIn K (.ref f_Doer_look) = true)
    (a_Doer_give : PySem.W.findIn K (.ref c_Doer) "give" = some (some (.ref f_Doer_give)))
    (i_Doer_give : PySem.W.isFn K (.ref f_Doer_give) = true)
    (l_Doer_give : K.lookup f_Doer_give = some ⟨oc_Doer_give, od_Doer_give, .func (PySem.W.fnOf "give" "Doer.give" (defArgs s_Doer_give) (defBody s_Doer_give) (defScope s_Doer_give) .none kV_Doer_give dc_Doer_give pm_Doer_give an_Doer_give cd_Doer_give ct_Doer_give), sl_Doer_give⟩)
    (cc_Doer_give : PySem.W.codeIn K cd_Doer_give "Doer.give" = true)
    (kk_Doer_give : PySem.W.keepIn K (.ref f_Doer_give) = true)
    (a_Doer_box_at : PySem.W.findIn K (.ref c_Doer) "box_at" = some (some (.ref f_Doer_box_at)))
    (i_Doer_box_at : PySem.W.isFn K (.ref f_Doer_box_at) = true)
    (l_Doer_box_at : K.lookup f_Doer_box_at = some ⟨oc_Doer_box_at, od_Doer_box_at, .func (PySem.W.fnOf "box_at" "Doer.box_at" (defArgs s_Doer_box_at) (defBody s_Doer_box_at) (defScope s_Doer_box_at) .none kV_Doer_box_at dc_Doer_box_at pm_Doer_box_at an_Doer_box_at cd_Doer_box_at ct_Doer_box_at), sl_Doer_box_at⟩)
    (cc_Doer_box_at : PySem.W.codeIn K cd_Doer_box_at "Doer.box_at" = true)
    (kk_Doer_box_at : PySem.W.keepIn K (.ref f_Doer_box_at) = true)
    (a_Doer_take_in : PySem.W.findIn K (.ref c_Doer) "take_in" = some (some (.ref f_Doer_take_in)))
    (i_Doer_take_in : PySem.W.isFn K (.ref f_Doer_take_in) = true)
    (l_Doer_take_in : K.lookup f_Doer_take_in = some ⟨oc_Doer_take_in, od_Doer_take_in, .func (PySem.W.fnOf "take_in" "Doer.take_in" (defArgs s_Doer_take_in) (defBody s_Doer_take_in) (defScope s_Doer_take_in) .none kV_Doer_take_in dc_Doer_take_in pm_Doer_take_in an_Doer_take_in cd_Doer_take_in ct_Doer_take_in), sl_Doer_take_in⟩)
    (cc_Doer_take_in : PySem.W.codeIn K cd_Doer_take_in "Doer.take_in" = true)
    (kk_Doer_take_in : PySem.W.keepIn K (.ref f_Doer_take_in) = true)
    (a_Doer_do_plain : PySem.W.findIn K (.ref c_Doer) "do_plain" = some (some (.ref f_Doer_do_plain)))
    (i_Doer_do_plain : PySem.W.isFn K (.ref f_Doer_do_plain) = true)
    (l_Doer_do_plain : K.lookup f_Doer_do_plain = some ⟨oc_Doer_do_plain, od_Doer_do_plain, .func (PySem.W.fnOf "do_plain" "Doer.do_plain" (defArgs s_Doer_do_plain) (defBody s_Doer_do_plain) (defScope s_Doer_do_plain) .none kV_Doer_do_plain dc_Doer_do_plain pm_Doer_do_plain an_Doer_do_plain cd_Doer_do_plain ct_Doer_do_plain), sl_Doer_do_plain⟩)
    (cc_Doer_do_plain : PySem.W.codeIn K cd_Doer_do_plain "Doer.do_plain" = true)
    (kk_Doer_do_plain : PySem.W.keepIn K (.ref f_Doer_do_plain) = true)
    (a_Doer_do_either : PySem.W.findIn K (.ref c_Doer) "do_either" = some (some (.ref f_Doer_do_either)))
    (i_Doer_do_either : PySem.W.isFn K (.ref f_Doer_do_either) = true)
    (l_Doer_do_either : K.lookup f_Doer_do_either = some ⟨oc_Doer_do_either, od_Doer_do_either, .func (PySem.W.fnOf "do_either" "Doer.do_either" (defArgs s_Doer_do_either) (defBody s_Doer_do_either) (defScope s_Doer_do_either) .none kV_Doer_do_either dc_Doer_do_either pm_Doer_do_either an_Doer_do_either cd_Doer_do_either ct_Doer_do_either), sl_Doer_do_either⟩)
    (cc_Doer_do_either : PySem.W.codeIn K cd_Doer_do_either "Doer.do_either" = true)
    (kk_Doer_do_either : PySem.W.keepIn K (.ref f_Doer_do_either) = true)
    (a_Doer_do_try : PySem.W.findIn K (.ref c_Doer) "do_try" = some (some (.ref f_Doer_do_try)))
    (i_Doer_do_try : PySem.W.isFn K (.ref f_Doer_do_try) = true)
    (l_Doer_do_try : K.lookup f_Doer_do_try = some ⟨oc_Doer_do_try, od_Doer_do_try, .func (PySem.W.fnOf "do_try" "Doer.do_try" (defArgs s_Doer_do_try) (defBody s_Doer_do_try) (defScope s_Doer_do_try) .none kV_Doer_do_try dc_Doer_do_try pm_Doer_do_try an_Doer_do_try cd_Doer_do_try ct_Doer_do_try), sl_Doer_do_try⟩)
    (cc_Doer_do_try : PySem.W.codeIn K cd_Doer_do_try "Doer.do_try" = true)
    (kk_Doer_do_try : PySem.W.keepIn K (.ref f_Doer_do_try) = true)
    (a_Doer_do_part : PySem.W.findIn K (.ref c_Doer) "do_part" = some (some (.ref f_Doer_do_part)))
    (i_Doer_do_part : PySem.W.isFn K (.ref f_Doer_do_part) = true)
    (l_Doer_do_part : K.lookup f_Doer_do_part = some ⟨oc_Doer_do_part, od_Doer_do_part, .func (PySem.W.fnOf "do_part" "Doer.do_part" (defArgs s_Doer_do_part) (defBody s_Doer_do_part) (defScope s_Doer_do_part) .none kV_Doer_do_part dc_Doer_do_part pm_Doer_do_part an_Doer_do_part cd_Doer_do_part ct_Doer_do_part), sl_Doer_do_part⟩)
    (cc_Doer_do_part : PySem.W.codeIn K cd_Doer_do_part "Doer.do_part" = true)
    (kk_Doer_do_part : PySem.W.keepIn K (.ref f_Doer_do_part) = true)
    (a_Doer_do_all : PySem.W.findIn K (.ref c_Doer) "do_all" = some (some (.ref f_Doer_do_all)))
    (i_Doer_do_all : PySem.W.isFn K (.ref f_Doer_do_all) = true)
    (l_Doer_do_all : K.lookup f_Doer_do_all = some ⟨oc_Doer_do_all, od_Doer_do_all, .func (PySem.W.fnOf "do_all" "Doer.do_all" (defArgs s_Doer_do_all) (defBody s_Doer_do_all) (defScope s_Doer_do_all) .none kV_Doer_do_all dc_Doer_do_all pm_Doer_do_all an_Doer_do_all cd_Doer_do_all ct_Doer_do_all), sl_Doer_do_all⟩)
    (cc_Doer_do_all : PySem.W.codeIn K cd_Doer_do_all "Doer.do_all" = true)
    (kk_Doer_do_all : PySem.W.keepIn K (.ref f_Doer_do_all) = true)
    (a_alone : PySem.W.nsIn K mainGlobals "alone" = some (some (.ref f_alone)))
    (l_alone : K.lookup f_alone = some ⟨oc_alone, od_alone, .func (PySem.W.fnOf "alone" "alone" (defArgs s_alone) (defBody s_alone) (defScope s_alone) .none kV_alone dc_alone pm_alone an_alone cd_alone ct_alone), sl_alone⟩)
    (cc_alone : PySem.W.codeIn K cd_alone "alone" = true)
    (kk_alone : PySem.W.keepIn K (.ref f_alone) = true)
    (a_l_mixed : PySem.W.nsIn K mainGlobals "_law_mixed" = some (some (.ref f_l_mixed)))
    (l_l_mixed : K.lookup f_l_mixed = some ⟨oc_l_mixed, od_l_mixed, .func (PySem.W.fnOf "_law_mixed" "_law_mixed" (defArgs s_l_mixed) (defBody s_l_mixed) (defScope s_l_mixed) .none kV_l_mixed dc_l_mixed pm_l_mixed an_l_mixed cd_l_mixed ct_l_mixed), sl_l_mixed⟩)
    (cc_l_mixed : PySem.W.codeIn K cd_l_mixed "_law_mixed" = true)
    (kk_l_mixed : PySem.W.keepIn K (.ref f_l_mixed) = true)
    (a_l_wide : PySem.W.nsIn K mainGlobals "_law_wide" = some (some (.ref f_l_wide)))
    (l_l_wide : K.lookup f_l_wide = some ⟨oc_l_wide, od_l_wide, .func (PySem.W.fnOf "_law_wide" "_law_wide" (defArgs s_l_wide) (defBody s_l_wide) (defScope s_l_wide) .none kV_l_wide dc_l_wide pm_l_wide an_l_wide cd_l_wide ct_l_wide), sl_l_wide⟩)
    (cc_l_wide : PySem.W.codeIn K cd_l_wide "_law_wide" = true)
    (kk_l_wide : PySem.W.keepIn K (.ref f_l_wide) = true)
    (a_l_names : PySem.W.nsIn K mainGlobals "_law_names" = some (some (.ref f_l_names)))
    (l_l_names : K.lookup f_l_names = some ⟨oc_l_names, od_l_names, .func (PySem.W.fnOf "_law_names" "_law_names" (defArgs s_l_names) (defBody s_l_names) (defScope s_l_names) .none kV_l_names dc_l_names pm_l_names an_l_names cd_l_names ct_l_names), sl_l_names⟩)
    (cc_l_names : PySem.W.codeIn K cd_l_names "_law_names" = true)
    (kk_l_names : PySem.W.keepIn K (.ref f_l_names) = true)
    (a_l_alike : PySem.W.nsIn K mainGlobals "_law_alike" = some (some (.ref f_l_alike)))
    (l_l_alike : K.lookup f_l_alike = some ⟨oc_l_alike, od_l_alike, .func (PySem.W.fnOf "_law_alike" "_law_alike" (defArgs s_l_alike) (defBody s_l_alike) (defScope s_l_alike) .none kV_l_alike dc_l_alike pm_l_alike an_l_alike cd_l_alike ct_l_alike), sl_l_alike⟩)
    (cc_l_alike : PySem.W.codeIn K cd_l_alike "_law_alike" = true)
    (kk_l_alike : PySem.W.keepIn K (.ref f_l_alike) = true)
    (a_l_plain : PySem.W.nsIn K mainGlobals "_law_plain" = some (some (.ref f_l_plain)))
    (l_l_plain : K.lookup f_l_plain = some ⟨oc_l_plain, od_l_plain, .func (PySem.W.fnOf "_law_plain" "_law_plain" (defArgs s_l_plain) (defBody s_l_plain) (defScope s_l_plain) .none kV_l_plain dc_l_plain pm_l_plain an_l_plain cd_l_plain ct_l_plain), sl_l_plain⟩)
    (cc_l_plain : PySem.W.codeIn K cd_l_plain "_law_plain" = true)
    (kk_l_plain : PySem.W.keepIn K (.ref f_l_plain) = true)
    (a_l_sided : PySem.W.nsIn K mainGlobals "_law_sided" = some (some (.ref f_l_sided)))
    (l_l_sided : K.lookup f_l_sided = some ⟨oc_l_sided, od_l_sided, .func (PySem.W.fnOf "_law_sided" "_law_sided" (defArgs s_l_sided) (defBody s_l_sided) (defScope s_l_sided) .none kV_l_sided dc_l_sided pm_l_sided an_l_sided cd_l_sided ct_l_sided), sl_l_sided⟩)
    (cc_l_sided : PySem.W.codeIn K cd_l_sided "_law_sided" = true)
    (kk_l_sided : PySem.W.keepIn K (.ref f_l_sided) = true)
    (a_l_tree : PySem.W.nsIn K mainGlobals "_law_tree" = some (some (.ref f_l_tree)))
    (l_l_tree : K.lookup f_l_tree = some ⟨oc_l_tree, od_l_tree, .func (PySem.W.fnOf "_law_tree" "_law_tree" (defArgs s_l_tree) (defBody s_l_tree) (defScope s_l_tree) .none kV_l_tree dc_l_tree pm_l_tree an_l_tree cd_l_tree ct_l_tree), sl_l_tree⟩)
    (cc_l_tree : PySem.W.codeIn K cd_l_tree "_law_tree" = true)
    (kk_l_tree : PySem.W.keepIn K (.ref f_l_tree) = true)
    (a_l_made : PySem.W.nsIn K mainGlobals "_law_made" = some (some (.ref f_l_made)))
    (l_l_made : K.lookup f_l_made = some ⟨oc_l_made, od_l_made, .func (PySem.W.fnOf "_law_made" "_law_made" (defArgs s_l_made) (defBody s_l_made) (defScope s_l_made) .none kV_l_made dc_l_made pm_l_made an_l_made cd_l_made ct_l_made), sl_l_made⟩)
    (cc_l_made : PySem.W.codeIn K cd_l_made "_law_made" = true)
    (kk_l_made : PySem.W.keepIn K (.ref f_l_made) = true)
    (a_l_boxes : PySem.W.nsIn K mainGlobals "_law_boxes" = some (some (.ref f_l_boxes)))
    (l_l_boxes : K.lookup f_l_boxes = some ⟨oc_l_boxes, od_l_boxes, .func (PySem.W.fnOf "_law_boxes" "_law_boxes" (defArgs s_l_boxes) (defBody s_l_boxes) (defScope s_l_boxes) .none kV_l_boxes dc_l_boxes pm_l_boxes an_l_boxes cd_l_boxes ct_l_boxes), sl_l_boxes⟩)
    (cc_l_boxes : PySem.W.codeIn K cd_l_boxes "_law_boxes" = true)
    (kk_l_boxes : PySem.W.keepIn K (.ref f_l_boxes) = true)
    (a_l_slots : PySem.W.nsIn K mainGlobals "_law_slots" = some (some (.ref f_l_slots)))
    (l_l_slots : K.lookup f_l_slots = some ⟨oc_l_slots, od_l_slots, .func (PySem.W.fnOf "_law_slots" "_law_slots" (defArgs s_l_slots) (defBody s_l_slots) (defScope s_l_slots) .none kV_l_slots dc_l_slots pm_l_slots an_l_slots cd_l_slots ct_l_slots), sl_l_slots⟩)
    (cc_l_slots : PySem.W.codeIn K cd_l_slots "_law_slots" = true)
    (kk_l_slots : PySem.W.keepIn K (.ref f_l_slots) = true)
    (a_l_sum : PySem.W.nsIn K mainGlobals "_law_sum" = some (some (.ref f_l_sum)))
    (l_l_sum : K.lookup f_l_sum = some ⟨oc_l_sum, od_l_sum, .func (PySem.W.fnOf "_law_sum" "_law_sum" (defArgs s_l_sum) (defBody s_l_sum) (defScope s_l_sum) .none kV_l_sum dc_l_sum pm_l_sum an_l_sum cd_l_sum ct_l_sum), sl_l_sum⟩)
    (cc_l_sum : PySem.W.codeIn K cd_l_sum "_law_sum" = true)
    (kk_l_sum : PySem.W.keepIn K (.ref f_l_sum) = true)
    (a_l_pairs : PySem.W.nsIn K mainGlobals "_law_pairs" = some (some (.ref f_l_pairs)))
    (l_l_pairs : K.lookup f_l_pairs = some ⟨oc_l_pairs, od_l_pairs, .func (PySem.W.fnOf "_law_pairs" "_law_pairs" (defArgs s_l_pairs) (defBody s_l_pairs) (defScope s_l_pairs) .none kV_l_pairs dc_l_pairs pm_l_pairs an_l_pairs cd_l_pairs ct_l_pairs), sl_l_pairs⟩)
    (cc_l_pairs : PySem.W.codeIn K cd_l_pairs "_law_pairs" = true)
    (kk_l_pairs : PySem.W.keepIn K (.ref f_l_pairs) = true)
    (a_l_mark : PySem.W.nsIn K mainGlobals "_law_mark" = some (some (.ref f_l_mark)))
    (l_l_mark : K.lookup f_l_mark = some ⟨oc_l_mark, od_l_mark, .func (PySem.W.fnOf "_law_mark" "_law_mark" (defArgs s_l_mark) (defBody s_l_mark) (defScope s_l_mark) .none kV_l_mark dc_l_mark pm_l_mark an_l_mark cd_l_mark ct_l_mark), sl_l_mark⟩)
    (cc_l_mark : PySem.W.codeIn K cd_l_mark "_law_mark" = true)
    (kk_l_mark : PySem.W.keepIn K (.ref f_l_mark) = true)
    (a_l_end : PySem.W.nsIn K mainGlobals "_law_end" = some (some (.ref f_l_end)))
    (l_l_end : K.lookup f_l_end = some ⟨oc_l_end, od_l_end, .func (PySem.W.fnOf "_law_end" "_law_end" (defArgs s_l_end) (defBody s_l_end) (defScope s_l_end) .none kV_l_end dc_l_end pm_l_end an_l_end cd_l_end ct_l_end), sl_l_end⟩)
    (cc_l_end : PySem.W.codeIn K cd_l_end "_law_end" = true)
    (kk_l_end : PySem.W.keepIn K (.ref f_l_end) = true)
    (a_l_plain_row : PySem.W.nsIn K mainGlobals "_law_plain_row" = some (some (.ref f_l_plain_row)))
    (l_l_plain_row : K.lookup f_l_plain_row = some ⟨oc_l_plain_row, od_l_plain_row, .func (PySem.W.fnOf "_law_plain_row" "_law_plain_row" (defArgs s_l_plain_row) (defBody s_l_plain_row) (defScope s_l_plain_row) .none kV_l_plain_row dc_l_plain_row pm_l_plain_row an_l_plain_row cd_l_plain_row ct_l_plain_row), sl_l_plain_row⟩)
    (cc_l_plain_row : PySem.W.codeIn K cd_l_plain_row "_law_plain_row" = true)
    (kk_l_plain_row : PySem.W.keepIn K (.ref f_l_plain_row) = true)
    (a_l_gone : PySem.W.nsIn K mainGlobals "_law_gone" = some (some (.ref f_l_gone)))
    (l_l_gone : K.lookup f_l_gone = some ⟨oc_l_gone, od_l_gone, .func (PySem.W.fnOf "_law_gone" "_law_gone" (defArgs s_l_gone) (defBody s_l_gone) (defScope s_l_gone) .none kV_l_gone dc_l_gone pm_l_gone an_l_gone cd_l_gone ct_l_gone), sl_l_gone⟩)
    (cc_l_gone : PySem.W.codeIn K cd_l_gone "_law_gone" = true)
    (kk_l_gone : PySem.W.keepIn K (.ref f_l_gone) = true)
    (a_law : PySem.W.nsIn K mainGlobals "law" = some (some (.ref f_law)))
    (l_law : K.lookup f_law = some ⟨oc_law, od_law, .func (PySem.W.fnOf "law" "law" (defArgs s_law) (defBody s_law) (defScope s_law) .none kV_law dc_law pm_law an_law cd_law ct_law), sl_law⟩)
    (cc_law : PySem.W.codeIn K cd_law "law" = true)
    (kk_law : PySem.W.keepIn K (.ref f_law) = true)
    (b_bool : PySem.W.nsIn K mainGlobals "bool" = some none)
    (b_dict : PySem.W.nsIn K mainGlobals "dict" = some none)
    (b_int : PySem.W.nsIn K mainGlobals "int" = some none)
    (b_isinstance : PySem.W.nsIn K mainGlobals "isinstance" = some none)
    (b_len : PySem.W.nsIn K mainGlobals "len" = some none)
    (b_list : PySem.W.nsIn K mainGlobals "list" = some none)
    (b_max : PySem.W.nsIn K mainGlobals "max" = some none)
    (b_range : PySem.W.nsIn K mainGlobals "range" = some none)
    (b_reversed : PySem.W.nsIn K mainGlobals "reversed" = some none)
    (b_sorted : PySem.W.nsIn K mainGlobals "sorted" = some none)
    (b_str : PySem.W.nsIn K mainGlobals "str" = some none)
    (b_sum : PySem.W.nsIn K mainGlobals "sum" = some none)
    (b_tuple : PySem.W.nsIn K mainGlobals "tuple" = some none)
    (g_LETTERS : PySem.W.nsIn K mainGlobals "LETTERS" = some (some (.str "abcdefgh" k_LETTERS)))
    (g_WIDE : PySem.W.nsIn K mainGlobals "WIDE" = some (some (.int 18446744073709551616 k_WIDE)))
    (g_Let : PySem.W.nsIn K mainGlobals "Let" = some (some (.ref c_Let)))
    (pg_Let : PySem.W.plainGet K c_Let Str.empty = true)
    (hd_Let : PySem.W.hasDictIn K c_Let = true)
    (po_Let : PySem.W.plainOver K c_Let = true)
    (sa_Let : PySem.W.findIn K (.ref c_Let) "__setattr__" = some (some (.builtin "object.__setattr__")))
    (mk_Let : PySem.W.makesIn K c_Let = true)
    (kc_Let : PySem.W.keepIn K (.ref c_Let) = true)
    (g_Reckon : PySem.W.nsIn K mainGlobals "Reckon" = some (some (.ref c_Reckon)))
    (pg_Reckon : PySem.W.plainGet K c_Reckon Str.empty = true)
    (hd_Reckon : PySem.W.hasDictIn K c_Reckon = true)
    (po_Reckon : PySem.W.plainOver K c_Reckon = true)
    (sa_Reckon : PySem.W.findIn K (.ref c_Reckon) "__setattr__" = some (some (.builtin "object.__setattr__")))
    (mk_Reckon : PySem.W.makesIn K c_Reckon = true)
    (kc_Reckon : PySem.W.keepIn K (.ref c_Reckon) = true)
    (g_Take : PySem.W.nsIn K mainGlobals "Take" = some (some (.ref c_Take)))
    (pg_Take : PySem.W.plainGet K c_Take Str.empty = true)
    (hd_Take : PySem.W.hasDictIn K c_Take = true)
    (po_Take : PySem.W.plainOver K c_Take = true)
    (sa_Take : PySem.W.findIn K (.ref c_Take) "__setattr__" = some (some (.builtin "object.__setattr__")))
    (mk_Take : PySem.W.makesIn K c_Take = true)
    (kc_Take : PySem.W.keepIn K (.ref c_Take) = true)
    (g_Put : PySem.W.nsIn K mainGlobals "Put" = some (some (.ref c_Put)))
    (pg_Put : PySem.W.plainGet K c_Put Str.empty = true)
    (hd_Put : PySem.W.hasDictIn K c_Put = true)
    (po_Put : PySem.W.plainOver K c_Put = true)
    (sa_Put : PySem.W.findIn K (.ref c_Put) "__setattr__" = some (some (.builtin "object.__setattr__")))
    (mk_Put : PySem.W.makesIn K c_Put = true)
    (kc_Put : PySem.W.keepIn K (.ref c_Put) = true)
    (g_If : PySem.W.nsIn K mainGlobals "If" = some (some (.ref c_If)))
    (pg_If : PySem.W.plainGet K c_If Str.empty = true)
    (hd_If : PySem.W.hasDictIn K c_If = true)
    (po_If : PySem.W.plainOver K c_If = true)
    (sa_If : PySem.W.findIn K (.ref c_If) "__setattr__" = some (some (.builtin "object.__setattr__")))
    (mk_If : PySem.W.makesIn K c_If = true)
    (kc_If : PySem.W.keepIn K (.ref c_If) = true)
    (g_Either : PySem.W.nsIn K mainGlobals "Either" = some (some (.ref c_Either)))
    (pg_Either : PySem.W.plainGet K c_Either Str.empty = true)
    (hd_Either : PySem.W.hasDictIn K c_Either = true)
    (po_Either : PySem.W.plainOver K c_Either = true)
    (sa_Either : PySem.W.findIn K (.ref c_Either) "__setattr__" = some (some (.builtin "object.__setattr__")))
    (mk_Either : PySem.W.makesIn K c_Either = true)
    (kc_Either : PySem.W.keepIn K (.ref c_Either) = true)
    (g_Try : PySem.W.nsIn K mainGlobals "Try" = some (some (.ref c_Try)))
    (pg_Try : PySem.W.plainGet K c_Try Str.empty = true)
    (hd_Try : PySem.W.hasDictIn K c_Try = true)
    (po_Try : PySem.W.plainOver K c_Try = true)
    (sa_Try : PySem.W.findIn K (.ref c_Try) "__setattr__" = some (some (.builtin "object.__setattr__")))
    (mk_Try : PySem.W.makesIn K c_Try = true)
    (kc_Try : PySem.W.keepIn K (.ref c_Try) = true)
    (g_Throw : PySem.W.nsIn K mainGlobals "Throw" = some (some (.ref c_Throw)))
    (pg_Throw : PySem.W.plainGet K c_Throw Str.empty = true)
    (hd_Throw : PySem.W.hasDictIn K c_Throw = true)
    (po_Throw : PySem.W.plainOver K c_Throw = true)
    (sa_Throw : PySem.W.findIn K (.ref c_Throw) "__setattr__" = some (some (.builtin "object.__setattr__")))
    (mk_Throw : PySem.W.makesIn K c_Throw = true)
    (kc_Throw : PySem.W.keepIn K (.ref c_Throw) = true)
    (g_Log : PySem.W.nsIn K mainGlobals "Log" = some (some (.ref c_Log)))
    (pg_Log : PySem.W.plainGet K c_Log Str.empty = true)
    (hd_Log : PySem.W.hasDictIn K c_Log = true)
    (po_Log : PySem.W.plainOver K c_Log = true)
    (sa_Log : PySem.W.findIn K (.ref c_Log) "__setattr__" = some (some (.builtin "object.__setattr__")))
    (mk_Log : PySem.W.makesIn K c_Log = true)
    (kc_Log : PySem.W.keepIn K (.ref c_Log) = true)
    (ntiers_Log : PySem.W.findIn K (.ref c_Log) "tiers" = some none)
    (nseen_Log : PySem.W.findIn K (.ref c_Log) "seen" = some none)
    (g_Doer : PySem.W.nsIn K mainGlobals "Doer" = some (some (.ref c_Doer)))
    (pg_Doer : PySem.W.plainGet K c_Doer Str.empty = true)
    (hd_Doer : PySem.W.hasDictIn K c_Doer = true)
    (po_Doer : PySem.W.plainOver K c_Doer = true)
    (sa_Doer : PySem.W.findIn K (.ref c_Doer) "__setattr__" = some (some (.builtin "object.__setattr__")))
    (mk_Doer : PySem.W.makesIn K c_Doer = true)
    (kc_Doer : PySem.W.keepIn K (.ref c_Doer) = true)
    (nstand_Doer : PySem.W.findIn K (.ref c_Doer) "stand" = some none)
    (npockets_Doer : PySem.W.findIn K (.ref c_Doer) "pockets" = some none)
    (nlog_Doer : PySem.W.findIn K (.ref c_Doer) "log" = some none)
    (g_Wait : PySem.W.nsIn K mainGlobals "Wait" = some (some (.ref c_Wait)))
    (pg_Wait : PySem.W.plainGet K c_Wait Str.empty = true)
    (hd_Wait : PySem.W.hasDictIn K c_Wait = true)
    (po_Wait : PySem.W.plainOver K c_Wait = true)
    (sa_Wait : PySem.W.findIn K (.ref c_Wait) "__setattr__" = some (some (.builtin "object.__setattr__")))
    (mk_Wait : PySem.W.makesIn K c_Wait = true)
    (kc_Wait : PySem.W.keepIn K (.ref c_Wait) = true)
    (in_Wait : PySem.W.findIn K (.ref c_Wait) "__init__" = some (some (.builtin "object.__init__")))
    (kgs : PySem.W.specialIn K (.builtin "object.__class__") "__get__" = some (some (.builtin "getset_descriptor.__get__")))
    (ktk : PySem.W.takesIn K (.builtin "object.__class__") = some true)
    (kcc_Let : PySem.W.findIn K (.ref c_Let) "__class__" = some (some (.builtin "object.__class__")))
    (kmo_Let : PySem.W.mroIn K c_Let (.type "object") = some true)
    (nslot_Let : PySem.W.findIn K (.ref c_Let) "slot" = some none)
    (nnumber_Let : PySem.W.findIn K (.ref c_Let) "number" = some none)
    (kit_Let_Let : PySem.W.kitOne K (.ref c_Let) (.ref c_Let) = some true)
    (kit_Let_Reckon : PySem.W.kitOne K (.ref c_Let) (.ref c_Reckon) = some false)
    (kit_Let_Take : PySem.W.kitOne K (.ref c_Let) (.ref c_Take) = some false)
    (kit_Let_Put : PySem.W.kitOne K (.ref c_Let) (.ref c_Put) = some false)
    (kit_Let_If : PySem.W.kitOne K (.ref c_Let) (.ref c_If) = some false)
    (kit_Let_Either : PySem.W.kitOne K (.ref c_Let) (.ref c_Either) = some false)
    (kit_Let_Try : PySem.W.kitOne K (.ref c_Let) (.ref c_Try) = some false)
    (kit_Let_Throw : PySem.W.kitOne K (.ref c_Let) (.ref c_Throw) = some false)
    (kit_Let_Wait : PySem.W.kitOne K (.ref c_Let) (.ref c_Wait) = some false)
    (kcc_Reckon : PySem.W.findIn K (.ref c_Reckon) "__class__" = some (some (.builtin "object.__class__")))
    (kmo_Reckon : PySem.W.mroIn K c_Reckon (.type "object") = some true)
    (nword_Reckon : PySem.W.findIn K (.ref c_Reckon) "word" = some none)
    (nslot_Reckon : PySem.W.findIn K (.ref c_Reckon) "slot" = some none)
    (none_Reckon : PySem.W.findIn K (.ref c_Reckon) "one" = some none)
    (nother_Reckon : PySem.W.findIn K (.ref c_Reckon) "other" = some none)
    (kit_Reckon_Let : PySem.W.kitOne K (.ref c_Reckon) (.ref c_Let) = some false)
    (kit_Reckon_Reckon : PySem.W.kitOne K (.ref c_Reckon) (.ref c_Reckon) = some true)
    (kit_Reckon_Take : PySem.W.kitOne K (.ref c_Reckon) (.ref c_Take) = some false)
    (kit_Reckon_Put : PySem.W.kitOne K (.ref c_Reckon) (.ref c_Put) = some false)
    (kit_Reckon_If : PySem.W.kitOne K (.ref c_Reckon) (.ref c_If) = some false)
    (kit_Reckon_Either : PySem.W.kitOne K (.ref c_Reckon) (.ref c_Either) = some false)
    (kit_Reckon_Try : PySem.W.kitOne K (.ref c_Reckon) (.ref c_Try) = some false)
    (kit_Reckon_Throw : PySem.W.kitOne K (.ref c_Reckon) (.ref c_Throw) = some false)
    (kit_Reckon_Wait : PySem.W.kitOne K (.ref c_Reckon) (.ref c_Wait) = some false)
    (kcc_Take : PySem.W.findIn K (.ref c_Take) "__class__" = some (some (.builtin "object.__class__")))
    (kmo_Take : PySem.W.mroIn K c_Take (.type "object") = some true)
    (nslot_Take : PySem.W.findIn K (.ref c_Take) "slot" = some none)
    (nplace_Take : PySem.W.findIn K (.ref c_Take) "place" = some none)
    (kit_Take_Let : PySem.W.kitOne K (.ref c_Take) (.ref c_Let) = some false)
    (kit_Take_Reckon : PySem.W.kitOne K (.ref c_Take) (.ref c_Reckon) = some false)
    (kit_Take_Take : PySem.W.kitOne K (.ref c_Take) (.ref c_Take) = some true)
    (kit_Take_Put : PySem.W.kitOne K (.ref c_Take) (.ref c_Put) = some false)
    (kit_Take_If : PySem.W.kitOne K (.ref c_Take) (.ref c_If) = some false)
    (kit_Take_Either : PySem.W.kitOne K (.ref c_Take) (.ref c_Either) = some false)
    (kit_Take_Try : PySem.W.kitOne K (.ref c_Take) (.ref c_Try) = some false)
    (kit_Take_Throw : PySem.W.kitOne K (.ref c_Take) (.ref c_Throw) = some false)
    (kit_Take_Wait : PySem.W.kitOne K (.ref c_Take) (.ref c_Wait) = some false)
    (kcc_Put : PySem.W.findIn K (.ref c_Put) "__class__" = some (some (.builtin "object.__class__")))
    (kmo_Put : PySem.W.mroIn K c_Put (.type "object") = some true)
    (nplace_Put : PySem.W.findIn K (.ref c_Put) "place" = some none)
    (nslot_Put : PySem.W.findIn K (.ref c_Put) "slot" = some none)
    (kit_Put_Let : PySem.W.kitOne K (.ref c_Put) (.ref c_Let) = some false)
    (kit_Put_Reckon : PySem.W.kitOne K (.ref c_Put) (.ref c_Reckon) = some false)
    (kit_Put_Take : PySem.W.kitOne K (.ref c_Put) (.ref c_Take) = some false)
    (kit_Put_Put : PySem.W.kitOne K (.ref c_Put) (.ref c_Put) = some true)
    (kit_Put_If : PySem.W.kitOne K (.ref c_Put) (.ref c_If) = some false)
    (kit_Put_Either : PySem.W.kitOne K (.ref c_Put) (.ref c_Either) = some false)
    (kit_Put_Try : PySem.W.kitOne K (.ref c_Put) (.ref c_Try) = some false)
    (kit_Put_Throw : PySem.W.kitOne K (.ref c_Put) (.ref c_Throw) = some false)
    (kit_Put_Wait : PySem.W.kitOne K (.ref c_Put) (.ref c_Wait) = some false)
    (kcc_If : PySem.W.findIn K (.ref c_If) "__class__" = some (some (.builtin "object.__class__")))
    (kmo_If : PySem.W.mroIn K c_If (.type "object") = some true)
    (nslot_If : PySem.W.findIn K (.ref c_If) "slot" = some none)
    (nparts_If : PySem.W.findIn K (.ref c_If) "parts" = some none)
    (nothers_If : PySem.W.findIn K (.ref c_If) "others" = some none)
    (kit_If_Let : PySem.W.kitOne K (.ref c_If) (.ref c_Let) = some false)
    (kit_If_Reckon : PySem.W.kitOne K (.ref c_If) (.ref c_Reckon) = some false)
    (kit_If_Take : PySem.W.kitOne K (.ref c_If) (.ref c_Take) = some false)
    (kit_If_Put : PySem.W.kitOne K (.ref c_If) (.ref c_Put) = some false)
    (kit_If_If : PySem.W.kitOne K (.ref c_If) (.ref c_If) = some true)
    (kit_If_Either : PySem.W.kitOne K (.ref c_If) (.ref c_Either) = some false)
    (kit_If_Try : PySem.W.kitOne K (.ref c_If) (.ref c_Try) = some false)
    (kit_If_Throw : PySem.W.kitOne K (.ref c_If) (.ref c_Throw) = some false)
    (kit_If_Wait : PySem.W.kitOne K (.ref c_If) (.ref c_Wait) = some false)
    (kcc_Either : PySem.W.findIn K (.ref c_Either) "__class__" = some (some (.builtin "object.__class__")))
    (kmo_Either : PySem.W.mroIn K c_Either (.type "object") = some true)
    (nparts_Either : PySem.W.findIn K (.ref c_Either) "parts" = some none)
    (nothers_Either : PySem.W.findIn K (.ref c_Either) "others" = some none)
    (kit_Either_Let : PySem.W.kitOne K (.ref c_Either) (.ref c_Let) = some false)
    (kit_Either_Reckon : PySem.W.kitOne K (.ref c_Either) (.ref c_Reckon) = some false)
    (kit_Either_Take : PySem.W.kitOne K (.ref c_Either) (.ref c_Take) = some false)
    (kit_Either_Put : PySem.W.kitOne K (.ref c_Either) (.ref c_Put) = some false)
    (kit_Either_If : PySem.W.kitOne K (.ref c_Either) (.ref c_If) = some false)
    (kit_Either_Either : PySem.W.kitOne K (.ref c_Either) (.ref c_Either) = some true)
    (kit_Either_Try : PySem.W.kitOne K (.ref c_Either) (.ref c_Try) = some false)
    (kit_Either_Throw : PySem.W.kitOne K (.ref c_Either) (.ref c_Throw) = some false)
    (kit_Either_Wait : PySem.W.kitOne K (.ref c_Either) (.ref c_Wait) = some false)
    (kcc_Try : PySem.W.findIn K (.ref c_Try) "__class__" = some (some (.builtin "object.__class__")))
    (kmo_Try : PySem.W.mroIn K c_Try (.type "object") = some true)
    (nparts_Try : PySem.W.findIn K (.ref c_Try) "parts" = some none)
    (nname_Try : PySem.W.findIn K (.ref c_Try) "name" = some none)
    (nslot_Try : PySem.W.findIn K (.ref c_Try) "slot" = some none)
    (nothers_Try : PySem.W.findIn K (.ref c_Try) "others" = some none)
    (kit_Try_Let : PySem.W.kitOne K (.ref c_Try) (.ref c_Let) = some false)
    (kit_Try_Reckon : PySem.W.kitOne K (.ref c_Try) (.ref c_Reckon) = some false)
    (kit_Try_Take : PySem.W.kitOne K (.ref c_Try) (.ref c_Take) = some false)
    (kit_Try_Put : PySem.W.kitOne K (.ref c_Try) (.ref c_Put) = some false)
    (kit_Try_If : PySem.W.kitOne K (.ref c_Try) (.ref c_If) = some false)
    (kit_Try_Either : PySem.W.kitOne K (.ref c_Try) (.ref c_Either) = some false)
    (kit_Try_Try : PySem.W.kitOne K (.ref c_Try) (.ref c_Try) = some true)
    (kit_Try_Throw : PySem.W.kitOne K (.ref c_Try) (.ref c_Throw) = some false)
    (kit_Try_Wait : PySem.W.kitOne K (.ref c_Try) (.ref c_Wait) = some false)
    (kcc_Throw : PySem.W.findIn K (.ref c_Throw) "__class__" = some (some (.builtin "object.__class__")))
    (kmo_Throw : PySem.W.mroIn K c_Throw (.type "object") = some true)
    (nname_Throw : PySem.W.findIn K (.ref c_Throw) "name" = some none)
    (nslot_Throw : PySem.W.findIn K (.ref c_Throw) "slot" = some none)
    (kit_Throw_Let : PySem.W.kitOne K (.ref c_Throw) (.ref c_Let) = some false)
    (kit_Throw_Reckon : PySem.W.kitOne K (.ref c_Throw) (.ref c_Reckon) = some false)
    (kit_Throw_Take : PySem.W.kitOne K (.ref c_Throw) (.ref c_Take) = some false)
    (kit_Throw_Put : PySem.W.kitOne K (.ref c_Throw) (.ref c_Put) = some false)
    (kit_Throw_If : PySem.W.kitOne K (.ref c_Throw) (.ref c_If) = some false)
    (kit_Throw_Either : PySem.W.kitOne K (.ref c_Throw) (.ref c_Either) = some false)
    (kit_Throw_Try : PySem.W.kitOne K (.ref c_Throw) (.ref c_Try) = some false)
    (kit_Throw_Throw : PySem.W.kitOne K (.ref c_Throw) (.ref c_Throw) = some true)
    (kit_Throw_Wait : PySem.W.kitOne K (.ref c_Throw) (.ref c_Wait) = some false)
    (kcc_Wait : PySem.W.findIn K (.ref c_Wait) "__class__" = some (some (.builtin "object.__class__")))
    (kmo_Wait : PySem.W.mroIn K c_Wait (.type "object") = some true)
    (kit_Wait_Let : PySem.W.kitOne K (.ref c_Wait) (.ref c_Let) = some false)
    (kit_Wait_Reckon : PySem.W.kitOne K (.ref c_Wait) (.ref c_Reckon) = some false)
    (kit_Wait_Take : PySem.W.kitOne K (.ref c_Wait) (.ref c_Take) = some false)
    (kit_Wait_Put : PySem.W.kitOne K (.ref c_Wait) (.ref c_Put) = some false)
    (kit_Wait_If : PySem.W.kitOne K (.ref c_Wait) (.ref c_If) = some false)
    (kit_Wait_Either : PySem.W.kitOne K (.ref c_Wait) (.ref c_Either) = some false)
    (kit_Wait_Try : PySem.W.kitOne K (.ref c_Wait) (.ref c_Try) = some false)
    (kit_Wait_Throw : PySem.W.kitOne K (.ref c_Wait) (.ref c_Throw) = some false)
    (kit_Wait_Wait : PySem.W.kitOne K (.ref c_Wait) (.ref c_Wait) = some true)
    : ∃ fd : FuncData, (∀ (s : Shared) (v : Value), BindsTo s fd ⟨[v], []⟩ [("_law_script", v)]) ∧ ∀ base : Heap, K.In base → base.Ns mainGlobals mg → FnOk P w K mg base CX0 66 fa fd ["_law_script"] (spLaw K) := by
  have e := hfa.symm.trans (PySem.W.mg_of X G a_law)
  cases e
  have F_Let_init := fun_mk (st := s_Let_init) l_Let_init cc_Let_init kk_Let_init
  have F_Reckon_init := fun_mk (st := s_Reckon_init) l_Reckon_init cc_Reckon_init kk_Reckon_init
  have F_Take_init := fun_mk (st := s_Take_init) l_Take_init cc_Take_init kk_Take_init
  have F_Put_init := fun_mk (st := s_Put_init) l_Put_init cc_Put_init kk_Put_init
  have F_If_init := fun_mk (st := s_If_init) l_If_init cc_If_init kk_If_init
  have F_Either_init := fun_mk (st := s_Either_init) l_Either_init cc_Either_init kk_Either_init
  have F_Try_init := fun_mk (st := s_Try_init) l_Try_init cc_Try_init kk_Try_init
  have F_Throw_init := fun_mk (st := s_Throw_init) l_Throw_init cc_Throw_init kk_Throw_init
  have F_plain_row := fun_mk (st := s_plain_row) l_plain_row cc_plain_row kk_plain_row
  have F_two_sides := fun_mk (st := s_two_sides) l_two_sides cc_two_sides kk_two_sides
  have F_part_rows := fun_mk (st := s_part_rows) l_part_rows cc_part_rows kk_part_rows
  have F_rows_from := fun_mk (st := s_rows_from) l_rows_from cc_rows_from kk_rows_from
  have F_rows_of := fun_mk (st := s_rows_of) l_rows_of cc_rows_of kk_rows_of
  have F_by_boxes := fun_mk (st := s_by_boxes) l_by_boxes cc_by_boxes kk_by_boxes
  have F_Log_init := fun_mk (st := s_Log_init) l_Log_init cc_Log_init kk_Log_init
  have F_Log_write := fun_mk (st := s_Log_write) l_Log_write cc_Log_write kk_Log_write
  have F_Log_own := fun_mk (st := s_Log_own) l_Log_own cc_Log_own kk_Log_own
  have F_Log_begin := fun_mk (st := s_Log_begin) l_Log_begin cc_Log_begin kk_Log_begin
  have F_Log_settle := fun_mk (st := s_Log_settle) l_Log_settle cc_Log_settle kk_Log_settle
  have F_Log_drop := fun_mk (st := s_Log_drop) l_Log_drop cc_Log_drop kk_Log_drop
  have F_Log_see := fun_mk (st := s_Log_see) l_Log_see cc_Log_see kk_Log_see
  have F_Log_saw := fun_mk (st := s_Log_saw) l_Log_saw cc_Log_saw kk_Log_saw
  have F_Log_wrote := fun_mk (st := s_Log_wrote) l_Log_wrote cc_Log_wrote kk_Log_wrote
  have F_reckon := fun_mk (st := s_reckon) l_reckon cc_reckon kk_reckon
  have F_Doer_init := fun_mk (st := s_Doer_init) l_Doer_init cc_Doer_init kk_Doer_init
  have F_Doer_look := fun_mk (st := s_Doer_look) l_Doer_look cc_Doer_look kk_Doer_look
  have F_Doer_give := fun_mk (st := s_Doer_give) l_Doer_give cc_Doer_give kk_Doer_give
  have F_Doer_box_at := fun_mk (st := s_Doer_box_at) l_Doer_box_at cc_Doer_box_at kk_Doer_box_at
  have F_Doer_take_in := fun_mk (st := s_Doer_take_in) l_Doer_take_in cc_Doer_take_in kk_Doer_take_in
  have F_Doer_do_plain := fun_mk (st := s_Doer_do_plain) l_Doer_do_plain cc_Doer_do_plain kk_Doer_do_plain
  have F_Doer_do_either := fun_mk (st := s_Doer_do_either) l_Doer_do_either cc_Doer_do_either kk_Doer_do_either
  have F_Doer_do_try := fun_mk (st := s_Doer_do_try) l_Doer_do_try cc_Doer_do_try kk_Doer_do_try
  have F_Doer_do_part := fun_mk (st := s_Doer_do_part) l_Doer_do_part cc_Doer_do_part kk_Doer_do_part
  have F_Doer_do_all := fun_mk (st := s_Doer_do_all) l_Doer_do_all cc_Doer_do_all kk_Doer_do_all
  have F_alone := fun_mk (st := s_alone) l_alone cc_alone kk_alone
  have F_l_mixed := fun_mk (st := s_l_mixed) l_l_mixed cc_l_mixed kk_l_mixed
  have F_l_wide := fun_mk (st := s_l_wide) l_l_wide cc_l_wide kk_l_wide
  have F_l_names := fun_mk (st := s_l_names) l_l_names cc_l_names kk_l_names
  have F_l_alike := fun_mk (st := s_l_alike) l_l_alike cc_l_alike kk_l_alike
  have F_l_plain := fun_mk (st := s_l_plain) l_l_plain cc_l_plain kk_l_plain
  have F_l_sided := fun_mk (st := s_l_sided) l_l_sided cc_l_sided kk_l_sided
  have F_l_tree := fun_mk (st := s_l_tree) l_l_tree cc_l_tree kk_l_tree
  have F_l_made := fun_mk (st := s_l_made) l_l_made cc_l_made kk_l_made
  have F_l_boxes := fun_mk (st := s_l_boxes) l_l_boxes cc_l_boxes kk_l_boxes
  have F_l_slots := fun_mk (st := s_l_slots) l_l_slots cc_l_slots kk_l_slots
  have F_l_sum := fun_mk (st := s_l_sum) l_l_sum cc_l_sum kk_l_sum
  have F_l_pairs := fun_mk (st := s_l_pairs) l_l_pairs cc_l_pairs kk_l_pairs
  have F_l_mark := fun_mk (st := s_l_mark) l_l_mark cc_l_mark kk_l_mark
  have F_l_end := fun_mk (st := s_l_end) l_l_end cc_l_end kk_l_end
  have F_l_plain_row := fun_mk (st := s_l_plain_row) l_l_plain_row cc_l_plain_row kk_l_plain_row
  have F_l_gone := fun_mk (st := s_l_gone) l_l_gone cc_l_gone kk_l_gone
  have F_law := fun_mk (st := s_law) l_law cc_law kk_law
  let d : Ad := { K := K, cLet := c_Let, cReckon := c_Reckon, cTake := c_Take, cPut := c_Put, cIf := c_If, cEither := c_Either, cTry := c_Try, cThrow := c_Throw, cLog := c_Log, cDoer := c_Doer, cWait := c_Wait }
  have T : Txt d mg { f_Let_init := f_Let_init, d_Let_init := _, f_Reckon_init := f_Reckon_init, d_Reckon_init := _, f_Take_init := f_Take_init, d_Take_init := _, f_Put_init := f_Put_init, d_Put_init := _, f_If_init := f_If_init, d_If_init := _, f_Either_init := f_Either_init, d_Either_init := _, f_Try_init := f_Try_init, d_Try_init := _, f_Throw_init := f_Throw_init, d_Throw_init := _, f_plain_row := f_plain_row, d_plain_row := _, f_two_sides := f_two_sides, d_two_sides := _, f_part_rows := f_part_rows, d_part_rows := _, f_rows_from := f_rows_from, d_rows_from := _, f_rows_of := f_rows_of, d_rows_of := _, f_by_boxes := f_by_boxes, d_by_boxes := _, f_Log_init := f_Log_init, d_Log_init := _, f_Log_write := f_Log_write, d_Log_write := _, f_Log_own := f_Log_own, d_Log_own := _, f_Log_begin := f_Log_begin, d_Log_begin := _, f_Log_settle := f_Log_settle, d_Log_settle := _, f_Log_drop := f_Log_drop, d_Log_drop := _, f_Log_see := f_Log_see, d_Log_see := _, f_Log_saw := f_Log_saw, d_Log_saw := _, f_Log_wrote := f_Log_wrote, d_Log_wrote := _, f_reckon := f_reckon, d_reckon := _, f_Doer_init := f_Doer_init, d_Doer_init := _, f_Doer_look := f_Doer_look, d_Doer_look := _, f_Doer_give := f_Doer_give, d_Doer_give := _, f_Doer_box_at := f_Doer_box_at, d_Doer_box_at := _, f_Doer_take_in := f_Doer_take_in, d_Doer_take_in := _, f_Doer_do_plain := f_Doer_do_plain, d_Doer_do_plain := _, f_Doer_do_either := f_Doer_do_either, d_Doer_do_either := _, f_Doer_do_try := f_Doer_do_try, d_Doer_do_try := _, f_Doer_do_part := f_Doer_do_part, d_Doer_do_part := _, f_Doer_do_all := f_Doer_do_all, d_Doer_do_all := _, f_alone := f_alone, d_alone := _, f_l_mixed := f_l_mixed, d_l_mixed := _, f_l_wide := f_l_wide, d_l_wide := _, f_l_names := f_l_names, d_l_names := _, f_l_alike := f_l_alike, d_l_alike := _, f_l_plain := f_l_plain, d_l_plain := _, f_l_sided := f_l_sided, d_l_sided := _, f_l_tree := f_l_tree, d_l_tree := _, f_l_made := f_l_made, d_l_made := _, f_l_boxes := f_l_boxes, d_l_boxes := _, f_l_slots := f_l_slots, d_l_slots := _, f_l_sum := f_l_sum, d_l_sum := _, f_l_pairs := f_l_pairs, d_l_pairs := _, f_l_mark := f_l_mark, d_l_mark := _, f_l_end := f_l_end, d_l_end := _, f_l_plain_row := f_l_plain_row, d_l_plain_row := _, f_l_gone := f_l_gone, d_l_gone := _, f_law := fa, d_law := _, k_LETTERS := k_LETTERS, k_WIDE := k_WIDE } :=
    { F_Let_init := F_Let_init
      B_Let_init := F_Let_init.binds (ps := ["self", "slot", "number"]) fun _ _ _ _ _ _ us hl => match us, hl with | [_, _, _], _ => rfl
      K_Let := ⟨mk_Let, a_Let_init, i_Let_init, kc_Let⟩
      F_Reckon_init := F_Reckon_init
      B_Reckon_init := F_Reckon_init.binds (ps := ["self", "word", "slot", "one", "other"]) fun _ _ _ _ _ _ us hl => match us, hl with | [_, _, _, _, _], _ => rfl
      K_Reckon := ⟨mk_Reckon, a_Reckon_init, i_Reckon_init, kc_Reckon⟩
      F_Take_init := F_Take_init
      B_Take_init := F_Take_init.binds (ps := ["self", "slot", "place"]) fun _ _ _ _ _ _ us hl => match us, hl with | [_, _, _], _ => rfl
      K_Take := ⟨mk_Take, a_Take_init, i_Take_init, kc_Take⟩
      F_Put_init := F_Put_init
      B_Put_init := F_Put_init.binds (ps := ["self", "place", "slot"]) fun _ _ _ _ _ _ us hl => match us, hl with | [_, _, _], _ => rfl
      K_Put := ⟨mk_Put, a_Put_init, i_Put_init, kc_Put⟩
      F_If_init := F_If_init
      B_If_init := F_If_init.binds (ps := ["self", "slot", "parts", "others"]) fun _ _ _ _ _ _ us hl => match us, hl with | [_, _, _, _], _ => rfl
      K_If := ⟨mk_If, a_If_init, i_If_init, kc_If⟩
      F_Either_init := F_Either_init
      B_Either_init := F_Either_init.binds (ps := ["self", "parts", "others"]) fun _ _ _ _ _ _ us hl => match us, hl with | [_, _, _], _ => rfl
      K_Either := ⟨mk_Either, a_Either_init, i_Either_init, kc_Either⟩
      F_Try_init := F_Try_init
      B_Try_init := F_Try_init.binds (ps := ["self", "parts", "name", "slot", "others"]) fun _ _ _ _ _ _ us hl => match us, hl with | [_, _, _, _, _], _ => rfl
      K_Try := ⟨mk_Try, a_Try_init, i_Try_init, kc_Try⟩
      F_Throw_init := F_Throw_init
      B_Throw_init := F_Throw_init.binds (ps := ["self", "name", "slot"]) fun _ _ _ _ _ _ us hl => match us, hl with | [_, _, _], _ => rfl
      K_Throw := ⟨mk_Throw, a_Throw_init, i_Throw_init, kc_Throw⟩
      F_plain_row := F_plain_row
      B_plain_row := F_plain_row.binds (ps := ["part"]) fun _ _ _ _ _ _ us hl => match us, hl with | [_], _ => rfl
      m_plain_row := PySem.W.mg_of X G a_plain_row
      F_two_sides := F_two_sides
      B_two_sides := F_two_sides.binds (ps := ["head", "part", "first", "closing"]) fun _ _ _ _ _ _ us hl => match us, hl with | [_, _, _, _], _ => rfl
      m_two_sides := PySem.W.mg_of X G a_two_sides
      F_part_rows := F_part_rows
      B_part_rows := F_part_rows.binds (ps := ["part", "first"]) fun _ _ _ _ _ _ us hl => match us, hl with | [_, _], _ => rfl
      m_part_rows := PySem.W.mg_of X G a_part_rows
      F_rows_from := F_rows_from
      B_rows_from := F_rows_from.binds (ps := ["parts", "first"]) fun _ _ _ _ _ _ us hl => match us, hl with | [_, _], _ => rfl
      m_rows_from := PySem.W.mg_of X G a_rows_from
      F_rows_of := F_rows_of
      B_rows_of := F_rows_of.binds (ps := ["deed"]) fun _ _ _ _ _ _ us hl => match us, hl with | [_], _ => rfl
      m_rows_of := PySem.W.mg_of X G a_rows_of
      F_by_boxes := F_by_boxes
      B_by_boxes := F_by_boxes.binds (ps := ["found"]) fun _ _ _ _ _ _ us hl => match us, hl with | [_], _ => rfl
      m_by_boxes := PySem.W.mg_of X G a_by_boxes
      F_Log_init := F_Log_init
      B_Log_init := F_Log_init.binds (ps := ["self"]) fun _ _ _ _ _ _ us hl => match us, hl with | [_], _ => rfl
      K_Log := ⟨mk_Log, a_Log_init, i_Log_init, kc_Log⟩
      F_Log_write := F_Log_write
      B_Log_write := F_Log_write.binds (ps := ["self", "box", "number"]) fun _ _ _ _ _ _ us hl => match us, hl with | [_, _, _], _ => rfl
      M_Log_write := ⟨a_Log_write, i_Log_write, kk_Log_write⟩
      F_Log_own := F_Log_own
      B_Log_own := F_Log_own.binds (ps := ["self", "box"]) fun _ _ _ _ _ _ us hl => match us, hl with | [_, _], _ => rfl
      M_Log_own := ⟨a_Log_own, i_Log_own, kk_Log_own⟩
      F_Log_begin := F_Log_begin
      B_Log_begin := F_Log_begin.binds (ps := ["self"]) fun _ _ _ _ _ _ us hl => match us, hl with | [_], _ => rfl
      M_Log_begin := ⟨a_Log_begin, i_Log_begin, kk_Log_begin⟩
      F_Log_settle := F_Log_settle
      B_Log_settle := F_Log_settle.binds (ps := ["self"]) fun _ _ _ _ _ _ us hl => match us, hl with | [_], _ => rfl
      M_Log_settle := ⟨a_Log_settle, i_Log_settle, kk_Log_settle⟩
      F_Log_drop := F_Log_drop
      B_Log_drop := F_Log_drop.binds (ps := ["self"]) fun _ _ _ _ _ _ us hl => match us, hl with | [_], _ => rfl
      M_Log_drop := ⟨a_Log_drop, i_Log_drop, kk_Log_drop⟩
      F_Log_see := F_Log_see
      B_Log_see := F_Log_see.binds (ps := ["self", "box", "number"]) fun _ _ _ _ _ _ us hl => match us, hl with | [_, _, _], _ => rfl
      M_Log_see := ⟨a_Log_see, i_Log_see, kk_Log_see⟩
      F_Log_saw := F_Log_saw
      B_Log_saw := F_Log_saw.binds (ps := ["self"]) fun _ _ _ _ _ _ us hl => match us, hl with | [_], _ => rfl
      M_Log_saw := ⟨a_Log_saw, i_Log_saw, kk_Log_saw⟩
      F_Log_wrote := F_Log_wrote
      B_Log_wrote := F_Log_wrote.binds (ps := ["self"]) fun _ _ _ _ _ _ us hl => match us, hl with | [_], _ => rfl
      M_Log_wrote := ⟨a_Log_wrote, i_Log_wrote, kk_Log_wrote⟩
      F_reckon := F_reckon
      B_reckon := F_reckon.binds (ps := ["word", "one", "other"]) fun _ _ _ _ _ _ us hl => match us, hl with | [_, _, _], _ => rfl
      m_reckon := PySem.W.mg_of X G a_reckon
      F_Doer_init := F_Doer_init
      B_Doer_init := F_Doer_init.binds (ps := ["self", "boxes", "slots"]) fun _ _ _ _ _ _ us hl => match us, hl with | [_, _, _], _ => rfl
      K_Doer := ⟨mk_Doer, a_Doer_init, i_Doer_init, kc_Doer⟩
      F_Doer_look := F_Doer_look
      B_Doer_look := F_Doer_look.binds (ps := ["self", "letter"]) fun _ _ _ _ _ _ us hl => match us, hl with | [_, _], _ => rfl
      M_Doer_look := ⟨a_Doer_look, i_Doer_look, kk_Doer_look⟩
      F_Doer_give := F_Doer_give
      B_Doer_give := F_Doer_give.binds (ps := ["self", "letter", "number"]) fun _ _ _ _ _ _ us hl => match us, hl with | [_, _, _], _ => rfl
      M_Doer_give := ⟨a_Doer_give, i_Doer_give, kk_Doer_give⟩
      F_Doer_box_at := F_Doer_box_at
      B_Doer_box_at := F_Doer_box_at.binds (ps := ["self", "letter"]) fun _ _ _ _ _ _ us hl => match us, hl with | [_, _], _ => rfl
      M_Doer_box_at := ⟨a_Doer_box_at, i_Doer_box_at, kk_Doer_box_at⟩
      F_Doer_take_in := F_Doer_take_in
      B_Doer_take_in := F_Doer_take_in.binds (ps := ["self", "part"]) fun _ _ _ _ _ _ us hl => match us, hl with | [_, _], _ => rfl
      M_Doer_take_in := ⟨a_Doer_take_in, i_Doer_take_in, kk_Doer_take_in⟩
      F_Doer_do_plain := F_Doer_do_plain
      B_Doer_do_plain := F_Doer_do_plain.binds (ps := ["self", "part"]) fun _ _ _ _ _ _ us hl => match us, hl with | [_, _], _ => rfl
      M_Doer_do_plain := ⟨a_Doer_do_plain, i_Doer_do_plain, kk_Doer_do_plain⟩
      F_Doer_do_either := F_Doer_do_either
      B_Doer_do_either := F_Doer_do_either.binds (ps := ["self", "part"]) fun _ _ _ _ _ _ us hl => match us, hl with | [_, _], _ => rfl
      M_Doer_do_either := ⟨a_Doer_do_either, i_Doer_do_either, kk_Doer_do_either⟩
      F_Doer_do_try := F_Doer_do_try
      B_Doer_do_try := F_Doer_do_try.binds (ps := ["self", "part"]) fun _ _ _ _ _ _ us hl => match us, hl with | [_, _], _ => rfl
      M_Doer_do_try := ⟨a_Doer_do_try, i_Doer_do_try, kk_Doer_do_try⟩
      F_Doer_do_part := F_Doer_do_part
      B_Doer_do_part := F_Doer_do_part.binds (ps := ["self", "part"]) fun _ _ _ _ _ _ us hl => match us, hl with | [_, _], _ => rfl
      M_Doer_do_part := ⟨a_Doer_do_part, i_Doer_do_part, kk_Doer_do_part⟩
      F_Doer_do_all := F_Doer_do_all
      B_Doer_do_all := F_Doer_do_all.binds (ps := ["self", "parts"]) fun _ _ _ _ _ _ us hl => match us, hl with | [_, _], _ => rfl
      M_Doer_do_all := ⟨a_Doer_do_all, i_Doer_do_all, kk_Doer_do_all⟩
      F_alone := F_alone
      B_alone := F_alone.binds (ps := ["deed", "boxes", "slots"]) fun _ _ _ _ _ _ us hl => match us, hl with | [_, _, _], _ => rfl
      m_alone := PySem.W.mg_of X G a_alone
      F_l_mixed := F_l_mixed
      B_l_mixed := F_l_mixed.binds (ps := ["_law_cell"]) fun _ _ _ _ _ _ us hl => match us, hl with | [_], _ => rfl
      m_l_mixed := PySem.W.mg_of X G a_l_mixed
      F_l_wide := F_l_wide
      B_l_wide := F_l_wide.binds (ps := ["_law_cell"]) fun _ _ _ _ _ _ us hl => match us, hl with | [_], _ => rfl
      m_l_wide := PySem.W.mg_of X G a_l_wide
      F_l_names := F_l_names
      B_l_names := F_l_names.binds (ps := ["_law_cell"]) fun _ _ _ _ _ _ us hl => match us, hl with | [_], _ => rfl
      m_l_names := PySem.W.mg_of X G a_l_names
      F_l_alike := F_l_alike
      B_l_alike := F_l_alike.binds (ps := ["_law_found", "_law_due"]) fun _ _ _ _ _ _ us hl => match us, hl with | [_, _], _ => rfl
      m_l_alike := PySem.W.mg_of X G a_l_alike
      F_l_plain := F_l_plain
      B_l_plain := F_l_plain.binds (ps := ["_law_mixed_here", "_law_cell"]) fun _ _ _ _ _ _ us hl => match us, hl with | [_, _], _ => rfl
      m_l_plain := PySem.W.mg_of X G a_l_plain
      F_l_sided := F_l_sided
      B_l_sided := F_l_sided.binds (ps := ["_law_mixed_here", "_law_one", "_law_other", "_law_names_here"]) fun _ _ _ _ _ _ us hl => match us, hl with | [_, _, _, _], _ => rfl
      m_l_sided := PySem.W.mg_of X G a_l_sided
      F_l_tree := F_l_tree
      B_l_tree := F_l_tree.binds (ps := ["_law_cells", "_law_depth", "_law_names_here"]) fun _ _ _ _ _ _ us hl => match us, hl with | [_, _, _], _ => rfl
      m_l_tree := PySem.W.mg_of X G a_l_tree
      F_l_made := F_l_made
      B_l_made := F_l_made.binds (ps := ["_law_tree_here"]) fun _ _ _ _ _ _ us hl => match us, hl with | [_], _ => rfl
      m_l_made := PySem.W.mg_of X G a_l_made
      F_l_boxes := F_l_boxes
      B_l_boxes := F_l_boxes.binds (ps := ["_law_cell"]) fun _ _ _ _ _ _ us hl => match us, hl with | [_], _ => rfl
      m_l_boxes := PySem.W.mg_of X G a_l_boxes
      F_l_slots := F_l_slots
      B_l_slots := F_l_slots.binds (ps := ["_law_cell"]) fun _ _ _ _ _ _ us hl => match us, hl with | [_], _ => rfl
      m_l_slots := PySem.W.mg_of X G a_l_slots
      F_l_sum := F_l_sum
      B_l_sum := F_l_sum.binds (ps := ["_law_word", "_law_one", "_law_other"]) fun _ _ _ _ _ _ us hl => match us, hl with | [_, _, _], _ => rfl
      m_l_sum := PySem.W.mg_of X G a_l_sum
      F_l_pairs := F_l_pairs
      B_l_pairs := F_l_pairs.binds (ps := ["_law_found"]) fun _ _ _ _ _ _ us hl => match us, hl with | [_], _ => rfl
      m_l_pairs := PySem.W.mg_of X G a_l_pairs
      F_l_mark := F_l_mark
      B_l_mark := F_l_mark.binds (ps := ["_law_marks", "_law_row"]) fun _ _ _ _ _ _ us hl => match us, hl with | [_, _], _ => rfl
      m_l_mark := PySem.W.mg_of X G a_l_mark
      F_l_end := F_l_end
      B_l_end := F_l_end.binds (ps := ["_law_row", "_law_slots_here"]) fun _ _ _ _ _ _ us hl => match us, hl with | [_, _], _ => rfl
      m_l_end := PySem.W.mg_of X G a_l_end
      F_l_plain_row := F_l_plain_row
      B_l_plain_row := F_l_plain_row.binds (ps := ["_law_row", "_law_boxes_here", "_law_saw", "_law_slots_here", "_law_written"]) fun _ _ _ _ _ _ us hl => match us, hl with | [_, _, _, _, _], _ => rfl
      m_l_plain_row := PySem.W.mg_of X G a_l_plain_row
      F_l_gone := F_l_gone
      B_l_gone := F_l_gone.binds (ps := ["_law_rows", "_law_boxes_here", "_law_first"]) fun _ _ _ _ _ _ us hl => match us, hl with | [_, _, _], _ => rfl
      m_l_gone := PySem.W.mg_of X G a_l_gone
      F_law := F_law
      B_law := F_law.binds (ps := ["_law_script"]) fun _ _ _ _ _ _ us hl => match us, hl with | [_], _ => rfl
      m_law := PySem.W.mg_of X G a_law
      b_bool := PySem.W.mg_none_of X G b_bool
      b_dict := PySem.W.mg_none_of X G b_dict
      b_int := PySem.W.mg_none_of X G b_int
      b_isinstance := PySem.W.mg_none_of X G b_isinstance
      b_len := PySem.W.mg_none_of X G b_len
      b_list := PySem.W.mg_none_of X G b_list
      b_max := PySem.W.mg_none_of X G b_max
      b_range := PySem.W.mg_none_of X G b_range
      b_reversed := PySem.W.mg_none_of X G b_reversed
      b_sorted := PySem.W.mg_none_of X G b_sorted
      b_str := PySem.W.mg_none_of X G b_str
      b_sum := PySem.W.mg_none_of X G b_sum
      b_tuple := PySem.W.mg_none_of X G b_tuple
      g_LETTERS := PySem.W.mg_of X G g_LETTERS
      g_WIDE := PySem.W.mg_of X G g_WIDE
      g_Let := PySem.W.mg_of X G g_Let
      g_Reckon := PySem.W.mg_of X G g_Reckon
      g_Take := PySem.W.mg_of X G g_Take
      g_Put := PySem.W.mg_of X G g_Put
      g_If := PySem.W.mg_of X G g_If
      g_Either := PySem.W.mg_of X G g_Either
      g_Try := PySem.W.mg_of X G g_Try
      g_Throw := PySem.W.mg_of X G g_Throw
      g_Log := PySem.W.mg_of X G g_Log
      t_Log := ⟨⟨pg_Log, hd_Log, po_Log, sa_Log⟩, ntiers_Log, nseen_Log⟩
      g_Doer := PySem.W.mg_of X G g_Doer
      t_Doer := ⟨⟨pg_Doer, hd_Doer, po_Doer, sa_Doer⟩, nstand_Doer, npockets_Doer, nlog_Doer⟩
      g_Wait := PySem.W.mg_of X G g_Wait
      MO_Wait := ⟨mk_Wait, in_Wait, kc_Wait⟩
      t_Parts := { cl := fun k => (by cases k; exact ⟨pg_Let, hd_Let, po_Let, sa_Let⟩; exact ⟨pg_Reckon, hd_Reckon, po_Reckon, sa_Reckon⟩; exact ⟨pg_Take, hd_Take, po_Take, sa_Take⟩; exact ⟨pg_Put, hd_Put, po_Put, sa_Put⟩; exact ⟨pg_If, hd_If, po_If, sa_If⟩; exact ⟨pg_Either, hd_Either, po_Either, sa_Either⟩; exact ⟨pg_Try, hd_Try, po_Try, sa_Try⟩; exact ⟨pg_Throw, hd_Throw, po_Throw, sa_Throw⟩; exact ⟨pg_Wait, hd_Wait, po_Wait, sa_Wait⟩), cc := fun k => (by cases k; exact kcc_Let; exact kcc_Reckon; exact kcc_Take; exact kcc_Put; exact kcc_If; exact kcc_Either; exact kcc_Try; exact kcc_Throw; exact kcc_Wait), mo := fun k => (by cases k; exact kmo_Let; exact kmo_Reckon; exact kmo_Take; exact kmo_Put; exact kmo_If; exact kmo_Either; exact kmo_Try; exact kmo_Throw; exact kmo_Wait), gs := kgs, tk := ktk, kit := fun k j hj => (by cases k <;> cases j; exact kit_Let_Let; exact kit_Let_Reckon; exact kit_Let_Take; exact kit_Let_Put; exact kit_Let_If; exact kit_Let_Either; exact kit_Let_Try; exact kit_Let_Throw; exact absurd rfl hj; exact kit_Reckon_Let; exact kit_Reckon_Reckon; exact kit_Reckon_Take; exact kit_Reckon_Put; exact kit_Reckon_If; exact kit_Reckon_Either; exact kit_Reckon_Try; exact kit_Reckon_Throw; exact absurd rfl hj; exact kit_Take_Let; exact kit_Take_Reckon; exact kit_Take_Take; exact kit_Take_Put; exact kit_Take_If; exact kit_Take_Either; exact kit_Take_Try; exact kit_Take_Throw; exact absurd rfl hj; exact kit_Put_Let; exact kit_Put_Reckon; exact kit_Put_Take; exact kit_Put_Put; exact kit_Put_If; exact kit_Put_Either; exact kit_Put_Try; exact kit_Put_Throw; exact absurd rfl hj; exact kit_If_Let; exact kit_If_Reckon; exact kit_If_Take; exact kit_If_Put; exact kit_If_If; exact kit_If_Either; exact kit_If_Try; exact kit_If_Throw; exact absurd rfl hj; exact kit_Either_Let; exact kit_Either_Reckon; exact kit_Either_Take; exact kit_Either_Put; exact kit_Either_If; exact kit_Either_Either; exact kit_Either_Try; exact kit_Either_Throw; exact absurd rfl hj; exact kit_Try_Let; exact kit_Try_Reckon; exact kit_Try_Take; exact kit_Try_Put; exact kit_Try_If; exact kit_Try_Either; exact kit_Try_Try; exact kit_Try_Throw; exact absurd rfl hj; exact kit_Throw_Let; exact kit_Throw_Reckon; exact kit_Throw_Take; exact kit_Throw_Put; exact kit_Throw_If; exact kit_Throw_Either; exact kit_Throw_Try; exact kit_Throw_Throw; exact absurd rfl hj; exact kit_Wait_Let; exact kit_Wait_Reckon; exact kit_Wait_Take; exact kit_Wait_Put; exact kit_Wait_If; exact kit_Wait_Either; exact kit_Wait_Try; exact kit_Wait_Throw; exact absurd rfl hj), na := fun k n h => (by cases k; (simp only [atK, List.mem_cons, List.not_mem_nil, or_false] at h; rcases h with rfl | rfl; exact nslot_Let; exact nnumber_Let); (simp only [atK, List.mem_cons, List.not_mem_nil, or_false] at h; rcases h with rfl | rfl | rfl | rfl; exact nword_Reckon; exact nslot_Reckon; exact none_Reckon; exact nother_Reckon); (simp only [atK, List.mem_cons, List.not_mem_nil, or_false] at h; rcases h with rfl | rfl; exact nslot_Take; exact nplace_Take); (simp only [atK, List.mem_cons, List.not_mem_nil, or_false] at h; rcases h with rfl | rfl; exact nplace_Put; exact nslot_Put); (simp only [atK, List.mem_cons, List.not_mem_nil, or_false] at h; rcases h with rfl | rfl | rfl; exact nslot_If; exact nparts_If; exact nothers_If); (simp only [atK, List.mem_cons, List.not_mem_nil, or_false] at h; rcases h with rfl | rfl; exact nparts_Either; exact nothers_Either); (simp only [atK, List.mem_cons, List.not_mem_nil, or_false] at h; rcases h with rfl | rfl | rfl | rfl; exact nparts_Try; exact nname_Try; exact nslot_Try; exact nothers_Try); (simp only [atK, List.mem_cons, List.not_mem_nil, or_false] at h; rcases h with rfl | rfl; exact nname_Throw; exact nslot_Throw); (simp only [atK, List.mem_cons, List.not_mem_nil, or_false] at h; done)) }
      t_PW := fun k => (by cases k; exact kit_Let_Wait; exact kit_Reckon_Wait; exact kit_Take_Wait; exact kit_Put_Wait; exact kit_If_Wait; exact kit_Either_Wait; exact kit_Try_Wait; exact kit_Throw_Wait; exact kit_Wait_Wait) }
  exact ⟨PySem.W.fnOf "law" "law" (defArgs s_law) (defBody s_law) (defScope s_law) .none kV_law dc_law pm_law an_law cd_law ct_law, fun s v => .of_eq rfl, fun base _ _ => ok_law T⟩
theorem walk {l : PySem.W.OpenLaw} {q : Program} {loose : List Str} {XP : (Str → Option Value) → Heap → Prop} {YP : World → Heap → Prop} {d : DefRec} {K : Params → PySem.W.Frag} (hn : l.most = some 63) (hdf : d.params.defaults = [])
    (hY : ∀ (w : World) (h : Heap), YP w h → (K w.params).In h)
    (F : ∀ (w : World) (mg : Str → Option Value) (fa : Addr) (h : Heap), (K w.params).In h → h.Ns mainGlobals mg → mg d.name = some (.ref fa) →
      ∃ fd : FuncData, (∀ (s : Shared) (u : Value), BindsTo s fd ⟨[u], []⟩ [("_law_script", u)]) ∧ ∀ base : Heap, (K w.params).In base → base.Ns mainGlobals mg → FnOk l.prog w (K w.params) mg base CX0 66 fa fd ["_law_script"] (spLaw (K w.params))) :
    PySem.W.WalkO q loose XP YP l.row.toRowW d [] (fun f vs => PySem.call f vs) :=
  L2.walk_of (n := 63) (k := 66) (x := "_law_script") (CX := fun _ => CX0) (sp := fun w => spLaw (K w.params)) hn (by decide) hdf ⟨rfl, by decide, by decide⟩ hY F (fun _ _ a ns hl _ hS => ⟨a, ns, rfl, hS, hl, fun _ => rfl⟩) fun _ _ _ _ _ z => z
end Row
open PySem PySem.W PyProof.Rows
set_option maxRecDepth 100000 in
set_option maxHeartbeats 0 in
theorem PySem.Challenge.cw_retryhall_k20_whole_alone_by_rows_holds : PySem.Challenge.rw_retryhall_k20_whole_alone_by_rows.Holds := by
  w_on; o_law; k_head; (case hw => w_witness2)
  k_fill
  refine Row.walk (l := PySem.Challenge.rw_retryhall_k20_whole_alone_by_rows) rfl rfl (fun w h Y => PySem.W.kIn_of Y) ?F
  case F =>
    intro w mg fa h KX G hmg
    refine' Row.all_mk KX G hmg ?a_Let_init ?i_Let_init ?l_Let_init ?cc_Let_init ?kk_Let_init ?a_Reckon_init ?i_Reckon_init ?l_Reckon_init ?cc_Reckon_init ?kk_Reckon_init ?a_Take_init ?i_Take_init ?l_Take_init ?cc_Take_init ?kk_Take_init ?a_Put_init ?i_Put_init ?l_Put_init ?cc_Put_init ?kk_Put_init ?a_If_init ?i_If_init ?l_If_init ?cc_If_init ?kk_If_init ?a_Either_init ?i_Either_init ?l_Either_init ?cc_Either_init ?kk_Either_init ?a_Try_init ?i_Try_init ?l_Try_init ?cc_Try_init ?kk_Try_init ?a_Throw_init ?i_Throw_init ?l_Throw_init ?cc_Throw_init ?kk_Throw_init ?a_plain_row ?l_plain_row ?cc_plain_row ?kk_plain_row ?a_two_sides ?l_two_sides ?cc_two_sides ?kk_two_sides ?a_part_rows ?l_part_rows ?cc_part_rows ?kk_part_rows ?a_rows_from ?l_rows_from ?cc_rows_from ?kk_rows_from ?a_rows_of ?l_rows_of ?cc_rows_of ?kk_rows_of ?a_by_boxes ?l_by_boxes ?cc_by_boxes ?kk_by_boxes ?a_Log_init ?i_Log_init ?l_Log_init ?cc_Log_init ?kk_Log_init ?a_Log_write ?i_Log_write ?l_Log_write ?cc_Log_write ?kk_Log_write ?a_Log_own ?i_Log_own ?l_Log_own ?cc_Log_own ?kk_Log_own ?a_Log_begin ?i_Log_begin ?l_Log_begin ?cc_Log_begin ?kk_Log_begin ?a_Log_settle ?i_Log_settle ?l_Log_settle ?cc_Log_settle ?kk_Log_settle ?a_Log_drop ?i_Log_drop ?l_Log_drop ?cc_Log_drop ?kk_Log_drop ?a_Log_see ?i_Log_see ?l_Log_see ?cc_Log_see ?kk_Log_see ?a_Log_saw ?i_Log_saw ?l_Log_saw ?cc_Log_saw ?kk_Log_saw ?a_Log_wrote ?i_Log_wrote ?l_Log_wrote ?cc_Log_wrote ?kk_Log_wrote ?a_reckon ?l_reckon ?cc_reckon ?kk_reckon ?a_Doer_init ?i_Doer_init ?l_Doer_init ?cc_Doer_init ?kk_Doer_init ?a_Doer_look ?i_Doer_look ?l_Doer_look ?cc_Doer_look ?kk_Doer_look ?a_Doer_give ?i_Doer_give ?l_Doer_give ?cc_Doer_give ?kk_Doer_give ?a_Doer_box_at ?i_Doer_box_at ?l_Doer_box_at ?cc_Doer_box_at ?kk_Doer_box_at ?a_Doer_take_in ?i_Doer_take_in ?l_Doer_take_in ?cc_Doer_take_in ?kk_Doer_take_in ?a_Doer_do_plain ?i_Doer_do_plain ?l_Doer_do_plain ?cc_Doer_do_plain ?kk_Doer_do_plain ?a_Doer_do_either ?i_Doer_do_either ?l_Doer_do_either ?cc_Doer_do_either ?kk_Doer_do_either ?a_Doer_do_try ?i_Doer_do_try ?l_Doer_do_try ?cc_Doer_do_try ?kk_Doer_do_try ?a_Doer_do_part ?i_Doer_do_part ?l_Doer_do_part ?cc_Doer_do_part ?kk_Doer_do_part ?a_Doer_do_all ?i_Doer_do_all ?l_Doer_do_all ?cc_Doer_do_all ?kk_Doer_do_all ?a_alone ?l_alone ?cc_alone ?kk_alone ?a_l_mixed ?l_l_mixed ?cc_l_mixed ?kk_l_mixed ?a_l_wide ?l_l_wide ?cc_l_wide ?kk_l_wide ?a_l_names ?l_l_names ?cc_l_names ?kk_l_names ?a_l_alike ?l_l_alike ?cc_l_alike ?kk_l_alike ?a_l_plain ?l_l_plain ?cc_l_plain ?kk_l_plain ?a_l_sided ?l_l_sided ?cc_l_sided ?kk_l_sided ?a_l_tree ?l_l_tree ?cc_l_tree ?kk_l_tree ?a_l_made ?l_l_made ?cc_l_made ?kk_l_made ?a_l_boxes ?l_l_boxes ?cc_l_boxes ?kk_l_boxes ?a_l_slots ?l_l_slots ?cc_l_slots ?kk_l_slots ?a_l_sum ?l_l_sum ?cc_l_sum ?kk_l_sum ?a_l_pairs ?l_l_pairs ?cc_l_pairs ?kk_l_pairs ?a_l_mark ?l_l_mark ?cc_l_mark ?kk_l_mark ?a_l_end ?l_l_end ?cc_l_end ?kk_l_end ?a_l_plain_row ?l_l_plain_row ?cc_l_plain_row ?kk_l_plain_row ?a_l_gone ?l_l_gone ?cc_l_gone ?kk_l_gone ?a_law ?l_law ?cc_law ?kk_law ?b_bool ?b_dict ?b_int ?b_isinstance ?b_len ?b_list ?b_max ?b_range ?b_reversed ?b_sorted ?b_str ?b_sum ?b_tuple ?g_LETTERS ?g_WIDE ?g_Let ?pg_Let ?hd_Let ?po_Let ?sa_Let ?mk_Let ?kc_Let ?g_Reckon ?pg_Reckon ?hd_Reckon ?po_Reckon ?sa_Reckon ?mk_Reckon ?kc_Reckon ?g_Take ?pg_Take ?hd_Take ?po_Take ?sa_Take ?mk_Take ?kc_Take ?g_Put ?pg_Put ?hd_Put ?po_Put ?sa_Put ?mk_Put ?kc_Put ?g_If ?pg_If ?hd_If ?po_If ?sa_If ?mk_If ?kc_If ?g_Either ?pg_Either ?hd_Either ?po_Either ?sa_Either ?mk_Either ?kc_Either ?g_Try ?pg_Try ?hd_Try ?po_Try ?sa_Try ?mk_Try ?kc_Try ?g_Throw ?pg_Throw ?hd_Throw ?po_Throw ?sa_Throw ?mk_Throw ?kc_Throw ?g_Log ?pg_Log ?hd_Log ?po_Log ?sa_Log ?mk_Log ?kc_Log ?ntiers_Log ?nseen_Log ?g_Doer ?pg_Doer ?hd_Doer ?po_Doer ?sa_Doer ?mk_Doer ?kc_Doer ?nstand_Doer ?npockets_Doer ?nlog_Doer ?g_Wait ?pg_Wait ?hd_Wait ?po_Wait ?sa_Wait ?mk_Wait ?kc_Wait ?in_Wait ?kgs ?ktk ?kcc_Let ?kmo_Let ?nslot_Let ?nnumber_Let ?kit_Let_Let ?kit_Let_Reckon ?kit_Let_Take ?kit_Let_Put ?kit_Let_If ?kit_Let_Either ?kit_Let_Try ?kit_Let_Throw ?kit_Let_Wait ?kcc_Reckon ?kmo_Reckon ?nword_Reckon ?nslot_Reckon ?none_Reckon ?nother_Reckon ?kit_Reckon_Let ?kit_Reckon_Reckon ?kit_Reckon_Take ?kit_Reckon_Put ?kit_Reckon_If ?kit_Reckon_Either ?kit_Reckon_Try ?kit_Reckon_Throw ?kit_Reckon_Wait ?kcc_Take ?kmo_Take ?nslot_Take ?nplace_Take ?kit_Take_Let ?kit_Take_Reckon ?kit_Take_Take ?kit_Take_Put ?kit_Take_If ?kit_Take_Either ?kit_Take_Try ?kit_Take_Throw ?kit_Take_Wait ?kcc_Put ?kmo_Put ?nplace_Put ?nslot_Put ?kit_Put_Let ?kit_Put_Reckon ?kit_Put_Take ?kit_Put_Put ?kit_Put_If ?kit_Put_Either ?kit_Put_Try ?kit_Put_Throw ?kit_Put_Wait ?kcc_If ?kmo_If ?nslot_If ?nparts_If ?nothers_If ?kit_If_Let ?kit_If_Reckon ?kit_If_Take ?kit_If_Put ?kit_If_If ?kit_If_Either ?kit_If_Try ?kit_If_Throw ?kit_If_Wait ?kcc_Either ?kmo_Either ?nparts_Either ?nothers_Either ?kit_Either_Let ?kit_Either_Reckon ?kit_Either_Take ?kit_Either_Put ?kit_Either_If ?kit_Either_Either ?kit_Either_Try ?kit_Either_Throw ?kit_Either_Wait ?kcc_Try ?kmo_Try ?nparts_Try ?nname_Try ?nslot_Try ?nothers_Try ?kit_Try_Let ?kit_Try_Reckon ?kit_Try_Take ?kit_Try_Put ?kit_Try_If ?kit_Try_Either ?kit_Try_Try ?kit_Try_Throw ?kit_Try_Wait ?kcc_Throw ?kmo_Throw ?nname_Throw ?nslot_Throw ?kit_Throw_Let ?kit_Throw_Reckon ?kit_Throw_Take ?kit_Throw_Put ?kit_Throw_If ?kit_Throw_Either ?kit_Throw_Try ?kit_Throw_Throw ?kit_Throw_Wait ?kcc_Wait ?kmo_Wait ?kit_Wait_Let ?kit_Wait_Reckon ?kit_Wait_Take ?kit_Wait_Put ?kit_Wait_If ?kit_Wait_Either ?kit_Wait_Try ?kit_Wait_Throw ?kit_Wait_Wait
    (case g_LETTERS => k_is)
    (case g_WIDE => k_is)
    (case g_Let => k_is)
    (case g_Reckon => k_is)
    (case g_Take => k_is)
    (case g_Put => k_is)
    (case g_If => k_is)
    (case g_Either => k_is)
    (case g_Try => k_is)
    (case g_Throw => k_is)
    (case g_Log => k_is)
    (case g_Doer => k_is)
    (case g_Wait => k_is)
    (case a_Let_init => k_is)
    (case i_Let_init => k_is)
    (case l_Let_init => k_is)
    (case cc_Let_init => k_is)
    (case kk_Let_init => k_is)
    (case a_Reckon_init => k_is)
    (case i_Reckon_init => k_is)
    (case l_Reckon_init => k_is)
    (case cc_Reckon_init => k_is)
    (case kk_Reckon_init => k_is)
    (case a_Take_init => k_is)
    (case i_Take_init => k_is)
    (case l_Take_init => k_is)
    (case cc_Take_init => k_is)
    (case kk_Take_init => k_is)
    (case a_Put_init => k_is)
    (case i_Put_init => k_is)
    (case l_Put_init => k_is)
    (case cc_Put_init => k_is)
    (case kk_Put_init => k_is)
    (case a_If_init => k_is)
    (case i_If_init => k_is)
    (case l_If_init => k_is)
    (case cc_If_init => k_is)
    (case kk_If_init => k_is)
    (case a_Either_init => k_is)
    (case i_Either_init => k_is)
    (case l_Either_init => k_is)
    (case cc_Either_init => k_is)
    (case kk_Either_init => k_is)
    (case a_Try_init => k_is)
    (case i_Try_init => k_is)
    (case l_Try_init => k_is)
    (case cc_Try_init => k_is)
    (case kk_Try_init => k_is)
    (case a_Throw_init => k_is)
    (case i_Throw_init => k_is)
    (case l_Throw_init => k_is)
    (case cc_Throw_init => k_is)
    (case kk_Throw_init => k_is)
    (case a_plain_row => k_is)
    (case l_plain_row => k_is)
    (case cc_plain_row => k_is)
    (case kk_plain_row => k_is)
    (case a_two_sides => k_is)
    (case l_two_sides => k_is)
    (case cc_two_sides => k_is)
    (case kk_two_sides => k_is)
    (case a_part_rows => k_is)
    (case l_part_rows => k_is)
    (case cc_part_rows => k_is)
    (case kk_part_rows => k_is)
    (case a_rows_from => k_is)
    (case l_rows_from => k_is)
    (case cc_rows_from => k_is)
    (case kk_rows_from => k_is)
    (case a_rows_of => k_is)
    (case l_rows_of => k_is)
    (case cc_rows_of => k_is)
    (case kk_rows_of => k_is)
    (case a_by_boxes => k_is)
    (case l_by_boxes => k_is)
    (case cc_by_boxes => k_is)
    (case kk_by_boxes => k_is)
    (case a_Log_init => k_is)
    (case i_Log_init => k_is)
    (case l_Log_init => k_is)
    (case cc_Log_init => k_is)
    (case kk_Log_init => k_is)
    (case a_Log_write => k_is)
    (case i_Log_write => k_is)
    (case l_Log_write => k_is)
    (case cc_Log_write => k_is)
    (case kk_Log_write => k_is)
    (case a_Log_own => k_is)
    (case i_Log_own => k_is)
    (case l_Log_own => k_is)
    (case cc_Log_own => k_is)
    (case kk_Log_own => k_is)
    (case a_Log_begin => k_is)
    (case i_Log_begin => k_is)
    (case l_Log_begin => k_is)
    (case cc_Log_begin => k_is)
    (case kk_Log_begin => k_is)
    (case a_Log_settle => k_is)
    (case i_Log_settle => k_is)
    (case l_Log_settle => k_is)
    (case cc_Log_settle => k_is)
    (case kk_Log_settle => k_is)
    (case a_Log_drop => k_is)
    (case i_Log_drop => k_is)
    (case l_Log_drop => k_is)
    (case cc_Log_drop => k_is)
    (case kk_Log_drop => k_is)
    (case a_Log_see => k_is)
    (case i_Log_see => k_is)
    (case l_Log_see => k_is)
    (case cc_Log_see => k_is)
    (case kk_Log_see => k_is)
    (case a_Log_saw => k_is)
    (case i_Log_saw => k_is)
    (case l_Log_saw => k_is)
    (case cc_Log_saw => k_is)
    (case kk_Log_saw => k_is)
    (case a_Log_wrote => k_is)
    (case i_Log_wrote => k_is)
    (case l_Log_wrote => k_is)
    (case cc_Log_wrote => k_is)
    (case kk_Log_wrote => k_is)
    (case a_reckon => k_is)
    (case l_reckon => k_is)
    (case cc_reckon => k_is)
    (case kk_reckon => k_is)
    (case a_Doer_init => k_is)
    (case i_Doer_init => k_is)
    (case l_Doer_init => k_is)
    (case cc_Doer_init => k_is)
    (case kk_Doer_init => k_is)
    (case a_Doer_look => k_is)
    (case i_Doer_look => k_is)
    (case l_Doer_look => k_is)
    (case cc_Doer_look => k_is)
    (case kk_Doer_look => k_is)
    (case a_Doer_give => k_is)
    (case i_Doer_give => k_is)
    (case l_Doer_give => k_is)
    (case cc_Doer_give => k_is)
    (case kk_Doer_give => k_is)
    (case a_Doer_box_at => k_is)
    (case i_Doer_box_at => k_is)
    (case l_Doer_box_at => k_is)
    (case cc_Doer_box_at => k_is)
    (case kk_Doer_box_at => k_is)
    (case a_Doer_take_in => k_is)
    (case i_Doer_take_in => k_is)
    (case l_Doer_take_in => k_is)
    (case cc_Doer_take_in => k_is)
    (case kk_Doer_take_in => k_is)
    (case a_Doer_do_plain => k_is)
    (case i_Doer_do_plain => k_is)
    (case l_Doer_do_plain => k_is)
    (case cc_Doer_do_plain => k_is)
    (case kk_Doer_do_plain => k_is)
    (case a_Doer_do_either => k_is)
    (case i_Doer_do_either => k_is)
    (case l_Doer_do_either => k_is)
    (case cc_Doer_do_either => k_is)
    (case kk_Doer_do_either => k_is)
    (case a_Doer_do_try => k_is)
    (case i_Doer_do_try => k_is)
    (case l_Doer_do_try => k_is)
    (case cc_Doer_do_try => k_is)
    (case kk_Doer_do_try => k_is)
    (case a_Doer_do_part => k_is)
    (case i_Doer_do_part => k_is)
    (case l_Doer_do_part => k_is)
    (case cc_Doer_do_part => k_is)
    (case kk_Doer_do_part => k_is)
    (case a_Doer_do_all => k_is)
    (case i_Doer_do_all => k_is)
    (case l_Doer_do_all => k_is)
    (case cc_Doer_do_all => k_is)
    (case kk_Doer_do_all => k_is)
    (case a_alone => k_is)
    (case l_alone => k_is)
    (case cc_alone => k_is)
    (case kk_alone => k_is)
    (case a_l_mixed => k_is)
    (case l_l_mixed => k_is)
    (case cc_l_mixed => k_is)
    (case kk_l_mixed => k_is)
    (case a_l_wide => k_is)
    (case l_l_wide => k_is)
    (case cc_l_wide => k_is)
    (case kk_l_wide => k_is)
    (case a_l_names => k_is)
    (case l_l_names => k_is)
    (case cc_l_names => k_is)
    (case kk_l_names => k_is)
    (case a_l_alike => k_is)
    (case l_l_alike => k_is)
    (case cc_l_alike => k_is)
    (case kk_l_alike => k_is)
    (case a_l_plain => k_is)
    (case l_l_plain => k_is)
    (case cc_l_plain => k_is)
    (case kk_l_plain => k_is)
    (case a_l_sided => k_is)
    (case l_l_sided => k_is)
    (case cc_l_sided => k_is)
    (case kk_l_sided => k_is)
    (case a_l_tree => k_is)
    (case l_l_tree => k_is)
    (case cc_l_tree => k_is)
    (case kk_l_tree => k_is)
    (case a_l_made => k_is)
    (case l_l_made => k_is)
    (case cc_l_made => k_is)
    (case kk_l_made => k_is)
    (case a_l_boxes => k_is)
    (case l_l_boxes => k_is)
    (case cc_l_boxes => k_is)
    (case kk_l_boxes => k_is)
    (case a_l_slots => k_is)
    (case l_l_slots => k_is)
    (case cc_l_slots => k_is)
    (case kk_l_slots => k_is)
    (case a_l_sum => k_is)
    (case l_l_sum => k_is)
    (case cc_l_sum => k_is)
    (case kk_l_sum => k_is)
    (case a_l_pairs => k_is)
    (case l_l_pairs => k_is)
    (case cc_l_pairs => k_is)
    (case kk_l_pairs => k_is)
    (case a_l_mark => k_is)
    (case l_l_mark => k_is)
    (case cc_l_mark => k_is)
    (case kk_l_mark => k_is)
    (case a_l_end => k_is)
    (case l_l_end => k_is)
    (case cc_l_end => k_is)
    (case kk_l_end => k_is)
    (case a_l_plain_row => k_is)
    (case l_l_plain_row => k_is)
    (case cc_l_plain_row => k_is)
    (case kk_l_plain_row => k_is)
    (case a_l_gone => k_is)
    (case l_l_gone => k_is)
    (case cc_l_gone => k_is)
    (case kk_l_gone => k_is)
    (case a_law => k_is)
    (case l_law => k_is)
    (case cc_law => k_is)
    (case kk_law => k_is)
    (case b_bool => k_is)
    (case b_dict => k_is)
    (case b_int => k_is)
    (case b_isinstance => k_is)
    (case b_len => k_is)
    (case b_list => k_is)
    (case b_max => k_is)
    (case b_range => k_is)
    (case b_reversed => k_is)
    (case b_sorted => k_is)
    (case b_str => k_is)
    (case b_sum => k_is)
    (case b_tuple => k_is)
    (case pg_Let => k_is)
    (case hd_Let => k_is)
    (case po_Let => k_is)
    (case sa_Let => k_is)
    (case mk_Let => k_is)
    (case kc_Let => k_is)
    (case pg_Reckon => k_is)
    (case hd_Reckon => k_is)
    (case po_Reckon => k_is)
    (case sa_Reckon => k_is)
    (case mk_Reckon => k_is)
    (case kc_Reckon => k_is)
    (case pg_Take => k_is)
    (case hd_Take => k_is)
    (case po_Take => k_is)
    (case sa_Take => k_is)
    (case mk_Take => k_is)
    (case kc_Take => k_is)
    (case pg_Put => k_is)
    (case hd_Put => k_is)
    (case po_Put => k_is)
    (case sa_Put => k_is)
    (case mk_Put => k_is)
    (case kc_Put => k_is)
    (case pg_If => k_is)
    (case hd_If => k_is)
    (case po_If => k_is)
    (case sa_If => k_is)
    (case mk_If => k_is)
    (case kc_If => k_is)
    (case pg_Either => k_is)
    (case hd_Either => k_is)
    (case po_Either => k_is)
    (case sa_Either => k_is)
    (case mk_Either => k_is)
    (case kc_Either => k_is)
    (case pg_Try => k_is)
    (case hd_Try => k_is)
    (case po_Try => k_is)
    (case sa_Try => k_is)
    (case mk_Try => k_is)
    (case kc_Try => k_is)
    (case pg_Throw => k_is)
    (case hd_Throw => k_is)
    (case po_Throw => k_is)
    (case sa_Throw => k_is)
    (case mk_Throw => k_is)
    (case kc_Throw => k_is)
    (case pg_Log => k_is)
    (case hd_Log => k_is)
    (case po_Log => k_is)
    (case sa_Log => k_is)
    (case mk_Log => k_is)
    (case kc_Log => k_is)
    (case ntiers_Log => k_is)
    (case nseen_Log => k_is)
    (case pg_Doer => k_is)
    (case hd_Doer => k_is)
    (case po_Doer => k_is)
    (case sa_Doer => k_is)
    (case mk_Doer => k_is)
    (case kc_Doer => k_is)
    (case nstand_Doer => k_is)
    (case npockets_Doer => k_is)
    (case nlog_Doer => k_is)
    (case pg_Wait => k_is)
    (case hd_Wait => k_is)
    (case po_Wait => k_is)
    (case sa_Wait => k_is)
    (case mk_Wait => k_is)
    (case kc_Wait => k_is)
    (case in_Wait => k_is)
    (case kgs => k_is)
    (case ktk => k_is)
    (case kcc_Let => k_is)
    (case kmo_Let => k_is)
    (case nslot_Let => k_is)
    (case nnumber_Let => k_is)
    (case kit_Let_Let => kit_is)
    (case kit_Let_Reckon => kit_is)
    (case kit_Let_Take => kit_is)
    (case kit_Let_Put => kit_is)
    (case kit_Let_If => kit_is)
    (case kit_Let_Either => kit_is)
    (case kit_Let_Try => kit_is)
    (case kit_Let_Throw => kit_is)
    (case kit_Let_Wait => kit_is)
    (case kcc_Reckon => k_is)
    (case kmo_Reckon => k_is)
    (case nword_Reckon => k_is)
    (case nslot_Reckon => k_is)
    (case none_Reckon => k_is)
    (case nother_Reckon => k_is)
    (case kit_Reckon_Let => kit_is)
    (case kit_Reckon_Reckon => kit_is)
    (case kit_Reckon_Take => kit_is)
    (case kit_Reckon_Put => kit_is)
    (case kit_Reckon_If => kit_is)
    (case kit_Reckon_Either => kit_is)
    (case kit_Reckon_Try => kit_is)
    (case kit_Reckon_Throw => kit_is)
    (case kit_Reckon_Wait => kit_is)
    (case kcc_Take => k_is)
    (case kmo_Take => k_is)
    (case nslot_Take => k_is)
    (case nplace_Take => k_is)
    (case kit_Take_Let => kit_is)
    (case kit_Take_Reckon => kit_is)
    (case kit_Take_Take => kit_is)
    (case kit_Take_Put => kit_is)
    (case kit_Take_If => kit_is)
    (case kit_Take_Either => kit_is)
    (case kit_Take_Try => kit_is)
    (case kit_Take_Throw => kit_is)
    (case kit_Take_Wait => kit_is)
    (case kcc_Put => k_is)
    (case kmo_Put => k_is)
    (case nplace_Put => k_is)
    (case nslot_Put => k_is)
    (case kit_Put_Let => kit_is)
    (case kit_Put_Reckon => kit_is)
    (case kit_Put_Take => kit_is)
    (case kit_Put_Put => kit_is)
    (case kit_Put_If => kit_is)
    (case kit_Put_Either => kit_is)
    (case kit_Put_Try => kit_is)
    (case kit_Put_Throw => kit_is)
    (case kit_Put_Wait => kit_is)
    (case kcc_If => k_is)
    (case kmo_If => k_is)
    (case nslot_If => k_is)
    (case nparts_If => k_is)
    (case nothers_If => k_is)
    (case kit_If_Let => kit_is)
    (case kit_If_Reckon => kit_is)
    (case kit_If_Take => kit_is)
    (case kit_If_Put => kit_is)
    (case kit_If_If => kit_is)
    (case kit_If_Either => kit_is)
    (case kit_If_Try => kit_is)
    (case kit_If_Throw => kit_is)
    (case kit_If_Wait => kit_is)
    (case kcc_Either => k_is)
    (case kmo_Either => k_is)
    (case nparts_Either => k_is)
    (case nothers_Either => k_is)
    (case kit_Either_Let => kit_is)
    (case kit_Either_Reckon => kit_is)
    (case kit_Either_Take => kit_is)
    (case kit_Either_Put => kit_is)
    (case kit_Either_If => kit_is)
    (case kit_Either_Either => kit_is)
    (case kit_Either_Try => kit_is)
    (case kit_Either_Throw => kit_is)
    (case kit_Either_Wait => kit_is)
    (case kcc_Try => k_is)
    (case kmo_Try => k_is)
    (case nparts_Try => k_is)
    (case nname_Try => k_is)
    (case nslot_Try => k_is)
    (case nothers_Try => k_is)
    (case kit_Try_Let => kit_is)
    (case kit_Try_Reckon => kit_is)
    (case kit_Try_Take => kit_is)
    (case kit_Try_Put => kit_is)
    (case kit_Try_If => kit_is)
    (case kit_Try_Either => kit_is)
    (case kit_Try_Try => kit_is)
    (case kit_Try_Throw => kit_is)
    (case kit_Try_Wait => kit_is)
    (case kcc_Throw => k_is)
    (case kmo_Throw => k_is)
    (case nname_Throw => k_is)
    (case nslot_Throw => k_is)
    (case kit_Throw_Let => kit_is)
    (case kit_Throw_Reckon => kit_is)
    (case kit_Throw_Take => kit_is)
    (case kit_Throw_Put => kit_is)
    (case kit_Throw_If => kit_is)
    (case kit_Throw_Either => kit_is)
    (case kit_Throw_Try => kit_is)
    (case kit_Throw_Throw => kit_is)
    (case kit_Throw_Wait => kit_is)
    (case kcc_Wait => k_is)
    (case kmo_Wait => k_is)
    (case kit_Wait_Let => kit_is)
    (case kit_Wait_Reckon => kit_is)
    (case kit_Wait_Take => kit_is)
    (case kit_Wait_Put => kit_is)
    (case kit_Wait_If => kit_is)
    (case kit_Wait_Either => kit_is)
    (case kit_Wait_Try => kit_is)
    (case kit_Wait_Throw => kit_is)
    (case kit_Wait_Wait => kit_is)
#print axioms PySem.Challenge.cw_retryhall_k20_whole_alone_by_rows_holds

