import PyProof.Rows.All
import Wide.All
import OpenK.AllK
import Wide.FinOn
import HandS.ForMost
import HandS.Codes
import HandS.Walk
import HandS.IsInst
import HandS.TupAny
import HandS.SortInts
import HandS.DictComp
import HandS.DictTup
import PyProof.EqAt
import PyProof.EqKinds
import PyProof.Rows.SortShell
import PyProof.Rows.SortKeyStr
import PyProof.Rows.StrMeet
import KE.KSortTup
import KE.KDictSum
import HandS.Sort
import HandS.SortOrd
import HandS.SortRule
import HandS.Conv
import HandS.Strs
import HandS.Set
import HandS.SetBool
import HandS.SetFor
import PyProof.TupleCall
import HandS.TupSets
import PySem.Challenge.RW_digstead_k64_phases_of_a_past
import PyProof.EqLayable
import PyProof.P3Eq
import PyProof.ReprRoads
import PyProof.StrLawsRepr
import HandS.List
import HandS.Deep
import HandS.Dict
import PyProof.NeData
import HandS.Lambda
import HandS.Ends
import HandS.EndBits
set_option Elab.async false
set_option linter.all false
set_option maxRecDepth 100000
set_option maxHeartbeats 4000000
namespace Dg
open PySem PySem.Spec PyProof.Rows L2
/-- a def of the module that may be called by its name, by its body -/
theorem cal_of {P : Program} {w : World} {K : PySem.W.Frag} {mg : Str → Option Value} {base : Heap} {x : Str} {st : Stmt} {f : Addr} {fd : FuncData} {N ps : List Str} {k : Nat} {sp : Sp} (F : L2.Fun K x x st f fd) (hg : mg x = some (.ref f)) (b : Binds K fd ps []) (S : FnScope N ps (defScope st)) (len : ∀ vs H Q E, sp vs H Q E → vs.length = ps.length)
    (hbody : ∀ (cdv : Value) (A : Around) (outer : List Env) (s : Shared) (H : Hp) (vs : List V) (Q : VK) (E : XK), Room k (A.deeper (envOfC x (defScope st) s.heap.objs.size f cdv)) → sp vs H Q E →
      ∃ t, PSs (cxOf L2.CX0 P w K mg base N x (defScope st) f cdv A outer s H E).nox (defBody st) t ∧ t { nx := fun _ H' => Q .non H', rt := Q } (start N vs) H) : C8.Cal P w K mg base (k + 1) x sp [] :=
  ⟨f, fd, ps, [], L2.Fun.ok F S len hbody, hg, F.kp, b, .nil⟩
/-- where a def stands -/
structure DefAt (K : PySem.W.Frag) (mg : Str → Option Value) (x : Str) (st : Stmt) (ps : List Str) : Prop where
  ex : ∃ (f : Addr) (fd : FuncData), L2.Fun K x x st f fd ∧ mg x = some (.ref f) ∧ Binds K fd ps []
/-- the built-in names that are still the built-in ones -/
structure Txt (mg : Str → Option Value) : Prop where
  len : mg "len" = none
  range : mg "range" = none
  min : mg "min" = none
  max : mg "max" = none
  abs : mg "abs" = none
  int : mg "int" = none
  bool : mg "bool" = none
  str : mg "str" = none
  tuple : mg "tuple" = none
  sorted : mg "sorted" = none
  isinstance : mg "isinstance" = none

/-! ### rules by names -/
def rInt : List V → Hp → VK → Prop := fun xs H Q => ∃ i, xs = [.int i] ∧ Q (.int i) H
def rAbs : List V → Hp → VK → Prop := fun xs H Q => ∃ i, xs = [.int i] ∧ Q (.int (if i < 0 then -i else i)) H
def rMin2 : List V → Hp → VK → Prop := fun xs H Q => ∃ i j, xs = [.int i, .int j] ∧ Q (.int (if j < i then j else i)) H
def rMax2 : List V → Hp → VK → Prop := fun xs H Q => ∃ i j, xs = [.int i, .int j] ∧ Q (.int (if j > i then j else i)) H
def rStrI : List V → Hp → VK → Prop := fun xs H Q => ∃ i, xs = [.int i] ∧ i.natAbs.log2 < 1920 ∧ Q (.str (toString i)) H
def rLenQ (K : PySem.W.Frag) : List V → Hp → VK → Prop := fun xs H Q => ∃ p ys, xs = [.ref p] ∧ (SqL K H p ys ∨ SqT K H p ys) ∧ Q (.int ys.length) H
def rTupOf (K : PySem.W.Frag) : List V → Hp → VK → Prop := fun xs H Q => ∃ p ys, xs = [.ref p] ∧ ((SqL K H p ys ∧ ∀ l, H l = none → Q (.ref l) (upd H l (.tup ys))) ∨ (SqT K H p ys ∧ Q (.ref p) H))
def rAddStr : R2 := fun x y H Q => ∃ i j, x = .str i ∧ y = .str j ∧ i.length + j.length ≤ sizeLine ∧ Q (.str (i ++ j)) H
def rGeStr : R2 := fun x y H Q => ∃ i j, x = .str i ∧ y = .str j ∧ Q (.bl (!decide (i.cps.toList < j.cps.toList))) H
section
variable {X : Cx}
theorem call_intD : CallR X (.type "int") rInt := fun pins s σ H xs us Q I r h => call_int1 pins s σ H xs us Q I r (.inl h)
theorem call_absD : CallR X (.builtin "abs") rAbs := call_abs
theorem call_min2D (hc : X.calm = true) : CallR X (.builtin "min") rMin2 := call_min2 hc
theorem call_max2D (hc : X.calm = true) : CallR X (.builtin "max") rMax2 := call_max2 hc
theorem call_strD : CallR X (.type "str") rStrI := call_str_int
theorem call_lenD' : CallR X (.builtin "len") (rLenQ X.K) := call_len_seq
theorem call_tupD : CallR X (.type "tuple") (rTupOf X.K) := call_tuple_of
theorem op_addS : OpR X (binaryOp .Add) rAddStr := op_add_str
theorem op_geS : OpR X (compareOp .GtE) rGeStr := op_ge_str
end
/-! ### the reading, step by step -/
section
variable {K : PySem.W.Frag} {t u : TS} {te ta tb tc td ti to : TE} {tt tu : TT} {tr : TA} {g : TG} {D : Ends} {σ : L2.St} {H : Hp} {Q : VK} {QB : Bool → Hp → Prop} {QA : List V → Hp → Prop} {QS : L2.St → Hp → Prop} {x y v : V} {i j n : Nat} {r r' : R2} {rc : List V → Hp → VK → Prop}
theorem r_seq (h : t { D with nx := u D } σ H) : tSeq t u D σ H := h
theorem r_next (h : D.nx σ H) : tNext D σ H := h
theorem r_nx {f b c : L2.St → Hp → Prop} {r : V → Hp → Prop} (h : f σ H) : Ends.nx ⟨f, r, b, c⟩ σ H := h
theorem r_rt {f b c : L2.St → Hp → Prop} {r : V → Hp → Prop} (h : r v H) : Ends.rt ⟨f, r, b, c⟩ v H := h
theorem r_bk {f b c : L2.St → Hp → Prop} {r : V → Hp → Prop} (h : b σ H) : Ends.bk ⟨f, r, b, c⟩ σ H := h
theorem r_ct {f b c : L2.St → Hp → Prop} {r : V → Hp → Prop} (h : c σ H) : Ends.ct ⟨f, r, b, c⟩ σ H := h
theorem r_brk (h : D.bk σ H) : tBreak D σ H := h
theorem r_asg (h : te σ H fun x H1 => g x σ H1 D.nx) : tAsg te g D σ H := h
theorem r_ret (h : te σ H D.rt) : tRet te D σ H := h
theorem r_drop (h : te σ H fun _ H1 => D.nx σ H1) : tDrop te D σ H := h
theorem r_ifS (h : tt σ H fun b H1 => if b = true then t D σ H1 else u D σ H1) : tIfS tt t u D σ H := h
theorem r_name (h : QS (σ.set i (some v)) H) : gName i v σ H QS := h
theorem r_gsub {ts : TSet} (h : to σ H fun o H1 => ti σ H1 fun i H2 => ts o i v H2 fun H3 => QS σ H3) : gSub to ti ts v σ H QS := h
theorem r_op (h : ta σ H fun x H1 => tb σ H1 fun y H2 => r x y H2 Q) : tOp r ta tb σ H Q := h
theorem r_un {r : V → Hp → VK → Prop} (h : ta σ H fun x H1 => r x H1 Q) : tUn r ta σ H Q := h
theorem r_cb (h : tr σ H fun vs H1 => rc vs H1 Q) : tCB rc tr σ H Q := h
theorem r_nil (h : QA [] H) : tNil σ H QA := h
theorem r_cons (h : ta σ H fun x H1 => tr σ H1 fun xs H2 => QA (x :: xs) H2) : tCons ta tr σ H QA := h
theorem r_var (h : σ[i]? = some (some v)) (q : Q v H) : tVar i σ H Q := ⟨v, h, q⟩
theorem r_c (h : Q v H) : tC v σ H Q := h
theorem r_test (h : te σ H fun x H' => ∃ k, x = .bl k ∧ QB k H') : tTest te σ H QB := h
theorem r_tB (h : te σ H fun x H' => ∃ k, x = .bl k ∧ QB k H') : tB te σ H QB := h
theorem r_bl {b : Bool} {A : Bool → Prop} (h : A b) : ∃ k, V.bl b = V.bl k ∧ A k := ⟨b, rfl, h⟩
theorem r_and (h : tt σ H fun c H1 => if c = true then tu σ H1 QB else QB false H1) : tAnd tt tu σ H QB := h
theorem r_or (h : tt σ H fun c H1 => if c = true then QB true H1 else tu σ H1 QB) : tOr tt tu σ H QB := h
theorem r_not (h : tt σ H fun c H1 => QB (!c) H1) : tNot tt σ H QB := h
theorem r_andV (h : ta σ H fun x H1 => ∃ c, x = .bl c ∧ if c = true then tb σ H1 Q else Q (.bl false) H1) : tAndV ta tb σ H Q := h
theorem r_I0 {f : Int → Int → V} {a b : Int} (h : Q (f a b) H) : rI0 f (.int a) (.int b) H Q := ⟨a, b, rfl, rfl, h⟩
theorem r_I {C : Int → Int → Prop} {f : Int → Int → V} {a b : Int} (hc : C a b) (h : Q (f a b) H) : rI C f (.int a) (.int b) H Q := ⟨a, b, rfl, rfl, hc, h⟩
theorem r_mod {a b : Int} (hc : 0 < b) (h : Q (.int (a % b)) H) : rI (fun _ j => 0 < j) (fun i j => .int (i % j)) (.int a) (.int b) H Q := ⟨a, b, rfl, rfl, hc, h⟩
theorem r_fdiv {a b : Int} (hc : 0 < b ∧ b < 1073741824) (h : Q (.int (a / b)) H) : rI CDiv (fun i j => .int (i / j)) (.int a) (.int b) H Q := ⟨a, b, rfl, rfl, hc, h⟩
theorem r_mul {a b : Int} (hc : (-18446744073709551616 < a ∧ a < 18446744073709551616) ∨ (-18446744073709551616 < b ∧ b < 18446744073709551616)) (h : Q (.int (a * b)) H) : rI CMul (fun i j => .int (i * j)) (.int a) (.int b) H Q := ⟨a, b, rfl, rfl, hc, h⟩
theorem r_U {f : Int → V} {a : Int} (h : Q (f a) H) : rU f (.int a) H Q := ⟨a, rfl, h⟩
theorem r_eqI {a b : Int} (h : Q (.bl (decide (a = b))) H) : rEq (.int a) (.int b) H Q := ⟨rfl, by
  have e : decide (V.int a = V.int b) = decide (a = b) := by rw [dec_int]; exact (Bool.beq_eq_decide_eq a b)
  rw [e]
  exact h⟩
theorem r_neI {a b : Int} (h : Q (.bl (!decide (a = b))) H) : rNe (.int a) (.int b) H Q := ⟨rfl, by
  have e : decide (V.int a = V.int b) = decide (a = b) := by rw [dec_int]; exact (Bool.beq_eq_decide_eq a b)
  rw [e]
  exact h⟩
theorem r_eqS {a b : Str} (h : Q (.bl (decide (a = b))) H) : rEq (.str a) (.str b) H Q := ⟨rfl, by
  have e : decide (V.str a = V.str b) = decide (a = b) := by
    rw [Bool.eq_iff_iff]
    simp
  rw [e]
  exact h⟩
theorem r_int {a : Int} (h : Q (.int a) H) : rInt [.int a] H Q := ⟨a, rfl, h⟩
theorem r_abs {a : Int} (h : Q (.int (if a < 0 then -a else a)) H) : rAbs [.int a] H Q := ⟨a, rfl, h⟩
theorem r_min2 {a b : Int} (h : Q (.int (if b < a then b else a)) H) : rMin2 [.int a, .int b] H Q := ⟨a, b, rfl, h⟩
theorem r_max2 {a b : Int} (h : Q (.int (if b > a then b else a)) H) : rMax2 [.int a, .int b] H Q := ⟨a, b, rfl, h⟩
theorem r_strI {a : Int} (hb : a.natAbs.log2 < 1920) (h : Q (.str (toString a)) H) : rStrI [.int a] H Q := ⟨a, rfl, hb, h⟩
theorem r_lenL {p : Addr} {xs : List V} (hs : SqL K H p xs) (h : Q (.int xs.length) H) : rLenQ K [.ref p] H Q := ⟨p, xs, rfl, .inl hs, h⟩
theorem r_lenT {p : Addr} {xs : List V} (hs : SqT K H p xs) (h : Q (.int xs.length) H) : rLenQ K [.ref p] H Q := ⟨p, xs, rfl, .inr hs, h⟩
theorem r_lst (hl : ∀ xs : List V, xs.length ≤ 100 → True) (h : tr σ H fun xs H1 => xs.length ≤ sizeLine ∧ ∀ p, H1 p = none → Q (.ref p) (upd H1 p (.lst xs))) : tLst tr σ H Q := h
theorem r_lst' (h : tr σ H fun xs H1 => xs.length ≤ sizeLine ∧ ∀ p, H1 p = none → Q (.ref p) (upd H1 p (.lst xs))) : tLst tr σ H Q := h
theorem r_tup (h : tr σ H fun xs H1 => xs.length ≤ sizeLine ∧ ∀ p, H1 p = none → Q (.ref p) (upd H1 p (.tup xs))) : tTup tr σ H Q := h
theorem r_ixL {p : Addr} {xs : List V} {k : Int} (hs : SqL K H p xs) (ha : atI xs k = some v) (h : Q v H) : rIxL K (.ref p) (.int k) H Q := ⟨p, xs, k, v, rfl, rfl, hs, ha, h⟩
theorem r_ixT {p : Addr} {xs : List V} {k : Int} (hs : SqT K H p xs) (ha : atI xs k = some v) (h : Q v H) : rIxT K (.ref p) (.int k) H Q := ⟨p, xs, k, v, rfl, rfl, hs, ha, h⟩
theorem r_setL {p : Addr} {xs : List V} {k : Int} {j : Nat} {QH : Hp → Prop} (hp : H p = some (.lst xs)) (hk : ixN xs.length k = some j) (h : QH (upd H p (.lst (xs.set j v)))) : rSetL (.ref p) (.int k) v H QH := ⟨p, xs, k, j, rfl, rfl, hp, hk, h⟩
theorem r_call {sp : Sp} {E : XK} (h : tr σ H fun vs H1 => sp (vs ++ []) H1 Q E) : tCall sp [] E tr σ H Q := h
theorem r_dget (h : td σ H fun x H1 => te σ H1 fun y H2 => ∃ a v, x = .ref a ∧ DGet H2 a y (some v) ∧ Q v H2) : tDGet td te σ H Q := h
theorem r_dput (h : te σ H fun v H1 => td σ H1 fun x H2 => ta σ H2 fun y H3 => ∃ a H4, x = .ref a ∧ DPut H3 a y v H4 ∧ D.nx σ H4) : sDPut td ta te D σ H := h
theorem r_rng1 {R : It → Hp → Prop} (h : tr σ H fun vs H1 => ∃ j : Int, vs = [.int j] ∧ -(2 ^ 62) ≤ j ∧ j < 2 ^ 62 ∧ R (Itr 0 j.toNat) H1) : iRng1 tr σ H R := h
theorem r_rng2 {R : It → Hp → Prop} (h : tr σ H fun vs H1 => ∃ i j : Int, vs = [.int i, .int j] ∧ (-(2 ^ 62) ≤ i ∧ i < 2 ^ 62 ∧ -(2 ^ 62) ≤ j ∧ j < 2 ^ 62) ∧ R (Itr i (j - i).toNat) H1) : iRng2 tr σ H R := h
/-- what a for asks once its walked thing is known -/
def ForW (J : It) (g : TG) (tb : TS) (D : Ends) (σ : L2.St) (H1 : Hp) : Prop := ∃ W : Nat → Nat → L2.St → Hp → Prop, (∃ m, W 0 m σ H1) ∧ ∀ i m σ H, W i m σ H →
    (J.stop i H ∧ D.nx σ H) ∨ (J.go i H ∧ ∃ N : L2.St → Hp → Prop, (∀ σ' H', N σ' H' → ∃ m', m' < m ∧ W (i + 1) m' σ' H') ∧ ∀ x H', J.yld i H x H' → g x σ H' fun σ2 H2 => tb { D with nx := N, ct := N, bk := D.nx } σ2 H2)
theorem r_for {wi : TI} {tb : TS} (h : wi σ H fun J H1 => ForW J g tb D σ H1) : tFor wi g tb D σ H := h
theorem r_list {R : It → Hp → Prop} (h : te σ H fun x H1 => ∃ a, x = .ref a ∧ (∃ xs, SqL K H1 a xs) ∧ R (Itl K a) H1) : iList K te σ H R := h
theorem r_itup {R : It → Hp → Prop} (h : te σ H fun x H1 => ∃ a, x = .ref a ∧ (∃ xs, SqT K H1 a xs) ∧ R (Itt K a) H1) : iTup K te σ H R := h
theorem r_cat {p q : Addr} {xs ys : List V} (hp : H p = some (.lst xs)) (hq : H q = some (.lst ys)) (hl : xs.length + ys.length ≤ sizeLine) (h : ∀ o, H o = none → Q (.ref o) (upd H o (.lst (xs ++ ys)))) : rCat (.ref p) (.ref q) H Q := ⟨p, q, xs, ys, rfl, rfl, hp, hq, hl, h⟩
theorem r_bm0 {T : String} {r : V → List V → Hp → VK → Prop} (h : ta σ H fun x H1 => tyV K T x H1 ∧ r x [] H1 Q) : tBM0 K T r ta σ H Q := h
theorem r_bm {T : String} {r : V → List V → Hp → VK → Prop} (h : ta σ H fun x H1 => tyV K T x H1 ∧ tr σ H1 fun xs H2 => r x xs H2 Q) : tBM K T r ta tr σ H Q := h
theorem tyL {p : Addr} {xs : List V} (h : H p = some (.lst xs)) : tyV K "list" (.ref p) H := .inl ⟨rfl, _, SqL.of h⟩
theorem r_pop {p : Addr} {xs : List V} (h : H p = some (.lst (xs ++ [v]))) (q : Q v (upd H p (.lst xs))) : tyV K "list" (.ref p) H ∧ rPop (.ref p) [] H Q :=
  ⟨tyL h, p, _, v, rfl, rfl, h, by simp, by rw [List.dropLast_concat]; exact q⟩
theorem r_append {p : Addr} {xs : List V} (h : H p = some (.lst xs)) (hl : xs.length ≤ 90000) (q : Q .non (upd H p (.lst (xs ++ [v])))) : rAppend (.ref p) [v] H Q :=
  ⟨p, xs, v, rfl, rfl, h, Nat.lt_of_le_of_lt hl (by decide), q⟩
theorem r_setLast {p : Addr} {xs : List V} {y : V} {QH : Hp → Prop} (hp : H p = some (.lst (xs ++ [y]))) (h : QH (upd H p (.lst (xs ++ [v])))) : rSetL (.ref p) (.int (-1)) v H QH :=
  ⟨p, _, -1, xs.length, rfl, rfl, hp, by
    unfold ixN
    rw [if_neg (by omega), if_pos (by rw [List.length_append, List.length_singleton]; omega)]
    congr 1
    rw [List.length_append, List.length_singleton]
    omega, by
    have e : (xs ++ [y]).set xs.length v = xs ++ [v] := by simp
    rw [e]
    exact h⟩
theorem r_ixS {z : Str} {k : Int} {c : Nat} (hl : z.length ≤ 90000) (ha : atI z.cps.toList k = some c) (h : Q (.str ⟨#[c]⟩) H) : rIxS (.str z) (.int k) H Q := ⟨z, k, c, rfl, rfl, Nat.le_trans hl (by decide), ha, h⟩
theorem r_addS {a b : Str} (hl : a.length + b.length ≤ 90000) (h : Q (.str (a ++ b)) H) : rAddStr (.str a) (.str b) H Q := ⟨a, b, rfl, rfl, Nat.le_trans hl (by decide), h⟩
theorem r_sl {r : V → Option Int → Option Int → Hp → VK → Prop} {tl th : TO} (h : te σ H fun x H1 => tl σ H1 fun l H2 => th σ H2 fun u H3 => r x l u H3 Q) : tSl r te tl th σ H Q := h
theorem r_nopart {QO : Option Int → Hp → Prop} (h : QO none H) : tNoPart σ H QO := h
theorem r_part {QO : Option Int → Hp → Prop} (h : te σ H fun x H1 => ∃ i, x = .int i ∧ QO (some i) H1) : tPart te σ H QO := h
theorem r_exI {a : Int} {A : Int → Prop} (h : A a) : ∃ i, V.int a = V.int i ∧ A i := ⟨a, rfl, h⟩
theorem r_slS {z : Str} {lo hi : Option Int} (hl : z.length ≤ 90000) (h : Q (.str (cutS z lo hi)) H) : rSlS (.str z) lo hi H Q := ⟨z, rfl, Nat.le_trans hl (by decide), h⟩
theorem r_inL {neg : Bool} {p : Addr} {xs : List V} (hs : SqL K H p xs) (hx : flatV x = true) (ha : xs.all flatV = true) (h : Q (.bl (if neg then !inV x xs else inV x xs)) H) : rIn K neg x (.ref p) H Q := ⟨p, xs, rfl, .inl hs, hx, ha, h⟩
theorem r_inT {neg : Bool} {p : Addr} {xs : List V} (hs : SqT K H p xs) (hx : flatV x = true) (ha : xs.all flatV = true) (h : Q (.bl (if neg then !inV x xs else inV x xs)) H) : rIn K neg x (.ref p) H Q := ⟨p, xs, rfl, .inr hs, hx, ha, h⟩
theorem flat_strs (ss : List Str) : (ss.map V.str).all flatV = true := by
  rw [List.all_eq_true]
  intro x hx
  obtain ⟨z, _, rfl⟩ := List.mem_map.mp hx
  rfl
theorem flat_ints (ss : List Int) : (ss.map V.int).all flatV = true := by
  rw [List.all_eq_true]
  intro x hx
  obtain ⟨z, _, rfl⟩ := List.mem_map.mp hx
  rfl
theorem cutS_le (z : Str) (k : Nat) : (cutS z none (some (k : Int))).length ≤ k := by
  show (((z.cps.toList.drop (HT.sIx z.length 0 none)).take (HT.sIx z.length z.length (some (k : Int)) - HT.sIx z.length 0 none)).toArray).size ≤ k
  rw [List.size_toArray, List.length_take, HT.sIx_none, HT.sIx_nat]
  omega
theorem str_cat (a b : Str) : (a ++ b).length = a.length + b.length := PySem.Str.length_append a b
theorem len_one (c : Nat) : (⟨#[c]⟩ : Str).length = 1 := rfl
theorem r_isi {b : Bool} {m : String} {ty : Value} (hx : TyX K H x ty) (hk : PySem.W.kitOne K ty (.type m) = some b) (h : Q (.bl b) H) : rIsi K [x, .ty m] H Q := ⟨x, .ty m, ty, .type m, b, rfl, .ty m, hx, hk, h⟩
theorem r_isTup {p : Addr} {xs : List V} (hp : H p = some (.tup xs)) (h : Q (.bl true) H) : rIsi K [.ref p, .ty "tuple"] H Q := r_isi (.base (.tup hp)) (kit_ty (by decide +kernel)) h
theorem r_isInt {a : Int} (h : Q (.bl true) H) : rIsi K [.int a, .ty "int"] H Q := r_isi (.base (.int a)) (kit_ty (by decide +kernel)) h
theorem r_isBool {a : Int} (h : Q (.bl false) H) : rIsi K [.int a, .ty "bool"] H Q := r_isi (.base (.int a)) (kit_ty (by decide +kernel)) h
theorem r_chain (h : ta σ H fun x H1 => tb σ H1 fun y H2 => r x y H2 fun z H3 => ∃ k, z = .bl k ∧ (if k = true then tc σ H3 fun w' H4 => r' y w' H4 Q else Q (.bl false) H3)) : tChain r r' ta tb tc σ H Q := h
theorem r_app {p : Addr} {xs : List V} (h : ta σ H fun x H1 => tyV K "list" x H1 ∧ tr σ H1 fun xs H2 => rAppend x xs H2 Q) : tBM K "list" rAppend ta tr σ H Q := h
theorem r_ite {c : Bool} {A B : Prop} (h1 : c = true → A) (h2 : c = false → B) : if c = true then A else B := by
  cases c with
  | true => exact h1 rfl
  | false => exact iteF (h2 rfl)
end
theorem ixN_nat {n j : Nat} (h : j < n) : ixN n (j : Int) = some j := by
  unfold ixN
  rw [if_pos (by omega), if_pos (by omega)]
  rfl
theorem ixN_last {n : Nat} (h : 0 < n) : ixN n (-1) = some (n - 1) := by
  unfold ixN
  rw [if_neg (by omega), if_pos (by omega)]
  congr 1
  omega
theorem atI_neg1 {α : Type} {xs : List α} {v : α} (h : xs[xs.length - 1]? = some v) : atI xs (-1) = some v := by
  have hp : 0 < xs.length := by
    cases xs with
    | nil => simp at h
    | cons a r => simp
  unfold atI
  rw [ixN_last hp]
  exact h
theorem atI_of {α : Type} {xs : List α} {k : Int} {j : Nat} {v : α} (e : k = (j : Int)) (h : xs[j]? = some v) : atI xs k = some v := by
  rw [e]
  exact atI_nat h
theorem sz_le {n : Nat} (h : n ≤ 100000) : n ≤ sizeLine := Nat.le_trans h (by decide)
theorem sz_lt {n : Nat} (h : n < 100000) : n < sizeLine := Nat.lt_of_lt_of_le h (by decide)
local macro_rules | `(tactic| walk_at "st") => `(tactic| first
  | ((with_reducible refine' r_var ?k1 ?_); (case k1 => exact rfl))
  | (with_reducible refine r_c ?_)
  | (with_reducible refine r_nx ?_)
  | (with_reducible refine r_rt ?_)
  | (with_reducible refine r_bk ?_)
  | (with_reducible refine r_ct ?_)
  | (with_reducible refine r_op ?_)
  | (with_reducible refine r_I0 ?_)
  | ((with_reducible refine' r_mod ?k1 ?_); (case k1 => omega))
  | ((with_reducible refine' r_mul ?k1 ?_); (case k1 => omega))
  | ((with_reducible refine' r_fdiv ?k1 ?_); (case k1 => omega))
  | (with_reducible refine r_seq ?_)
  | (with_reducible refine r_asg ?_)
  | (with_reducible refine r_name ?_)
  | (with_reducible refine r_cons ?_)
  | (with_reducible refine r_nil ?_)
  | (with_reducible refine r_cb ?_)
  | (with_reducible refine r_ret ?_)
  | (with_reducible refine r_ifS ?_)
  | (with_reducible refine r_test ?_)
  | (with_reducible refine r_tB ?_)
  | (with_reducible refine r_int ?_)
  | (with_reducible refine r_next ?_)
  | (with_reducible refine r_drop ?_)
  | (with_reducible refine r_un ?_)
  | (with_reducible refine r_U ?_)
  | (with_reducible refine r_gsub ?_)
  | (with_reducible refine r_call ?_)
  | (with_reducible refine r_eqI ?_)
  | (with_reducible refine r_neI ?_)
  | (with_reducible refine r_eqS ?_)
  | (with_reducible refine r_and ?_)
  | (with_reducible refine r_or ?_)
  | (with_reducible refine r_not ?_)
  | (with_reducible refine r_andV ?_)
  | (with_reducible refine r_bl ?_)
  | (with_reducible refine r_tup ?_)
  | (with_reducible refine r_lst' ?_)
  | (with_reducible refine r_dput ?_)
  | (with_reducible refine r_abs ?_)
  | (with_reducible refine r_min2 ?_)
  | (with_reducible refine r_max2 ?_)
  | (with_reducible refine r_brk ?_)
  | (with_reducible refine r_rng1 ?_)
  | (with_reducible refine r_rng2 ?_)
  | (with_reducible refine r_for ?_)
  | (with_reducible refine r_chain ?_)
  | (with_reducible refine r_isInt ?_)
  | (with_reducible refine r_isBool ?_)
  | (with_reducible refine r_bm0 ?_)
  | (with_reducible refine r_sl ?_)
  | (with_reducible refine r_nopart ?_)
  | (with_reducible refine r_part ?_)
  | (with_reducible refine r_exI ?_)
  | (with_reducible refine r_bm ?_)
  | (with_reducible refine r_list ?_)
  | (with_reducible refine r_itup ?_))
local macro_rules | `(tactic| walk_at "go") => `(tactic| repeat walk_at "st")
/-! ### heaps -/
theorem same_upd {H : Hp} {p : Addr} {o : HO} (h : H p = none) : Same H (upd H p o) := fun b x e => by
  rw [upd_ne (ne_of_none e h)]
  exact e
/-- an object that H does not know may change -/
theorem Same.mut {H H' : Hp} {p : Addr} {o : HO} (e : Same H H') (h : H p = none) : Same H (upd H' p o) := fun b x ha => by
  rw [upd_ne (ne_of_none ha h)]
  exact e b x ha
/-- all but p and g stay -/
def But2 (p g : Addr) (H H' : Hp) : Prop := ∀ b o, H b = some o → b ≠ p → b ≠ g → H' b = some o
theorem But2.refl {p g : Addr} {H : Hp} : But2 p g H H := fun _ _ e _ _ => e
theorem But2.trans {p g : Addr} {H H1 H2 : Hp} (a : But2 p g H H1) (b : But2 p g H1 H2) : But2 p g H H2 := fun c o e h1 h2 => b c o (a c o e h1 h2) h1 h2
theorem But2.of {p g : Addr} {H H' : Hp} (a : Same H H') : But2 p g H H' := fun c o e _ _ => a c o e
theorem But2.seq {p g : Addr} {K : PySem.W.Frag} {H H' : Hp} {a : Addr} {xs : List V} (e : But2 p g H H') (h : SqL K H a xs) (h1 : a ≠ p) (h2 : a ≠ g) : SqL K H' a xs := by
  rcases h with (h | ⟨o, h⟩) | h
  · exact .inl (.inl (e _ _ h h1 h2))
  · exact .inl (.inr ⟨o, e _ _ h h1 h2⟩)
  · exact .inr h
/-- fresh after: fresh before, where p and g are known -/
theorem But2.free {p g : Addr} {H H' : Hp} (e : But2 p g H H') {l : Addr} (h : H' l = none) (hp : H' p ≠ none) (hg : H' g ≠ none) : H l = none := by
  cases q : H l with
  | none => rfl
  | some o =>
    have n1 : l ≠ p := fun z => hp (by rw [← z]; exact h)
    have n2 : l ≠ g := fun z => hg (by rw [← z]; exact h)
    rw [e l o q n1 n2] at h
    cases h
/-- all but d stays -/
def But1 (d : Addr) (H H' : Hp) : Prop := ∀ b o, H b = some o → b ≠ d → H' b = some o
/-- the drawing's pool at p, its row of great numbers at g -/
structure PoolAt (H : Hp) (p g : Addr) : Prop where
  ne : p ≠ g
  ex : ∃ (ns : List Int) (m c : Int), H p = some (.lst [.ref g, .int m, .int c]) ∧ H g = some (.lst (ns.map V.int)) ∧ ns.length ≤ 63 ∧ 0 ≤ m ∧ m < 2147483647
theorem PoolAt.keep {H H' : Hp} {p g : Addr} (a : PoolAt H p g) (e : Same H H') : PoolAt H' p g := by
  obtain ⟨n, ns, m, c, h1, h2, r⟩ := a
  exact ⟨n, ns, m, c, e _ _ h1, e _ _ h2, r⟩
theorem PoolAt.np {H : Hp} {p g : Addr} (a : PoolAt H p g) : H p ≠ none := by
  obtain ⟨n, ns, m, c, h1, h2, r⟩ := a
  rw [h1]
  exact fun z => nomatch z
theorem PoolAt.ng {H : Hp} {p g : Addr} (a : PoolAt H p g) : H g ≠ none := by
  obtain ⟨n, ns, m, c, h1, h2, r⟩ := a
  rw [h2]
  exact fun z => nomatch z
section
open PySem PySem.Spec PyProof.Rows L2
abbrev DT := List (List Key × V)
/-- the key (letter, name) -/
abbrev key (c n : Str) : List Key := [.inr c, .inr n]
theorem key_inj {c n c' n' : Str} (h : key c n = key c' n') : c = c' ∧ n = n' := by
  injection h with h1 h2
  injection h2 with h2 _
  exact ⟨Sum.inr.inj h1, Sum.inr.inj h2⟩
section
variable {κ : Type} [DecidableEq κ]
theorem valV_mem {kvs : List (κ × V)} {k : κ} {v : V} (h : valV kvs k = some v) : (k, v) ∈ kvs := by
  unfold valV at h
  rw [Option.map_eq_some_iff] at h
  obtain ⟨⟨a, b⟩, h1, h2⟩ := h
  have e := List.find?_some h1
  have e2 : a = k := of_decide_eq_true e
  have m := List.mem_of_find?_eq_some h1
  have h2 : b = v := h2
  rw [← e2, ← h2]
  exact m
theorem mem_valV {kvs : List (κ × V)} {k : κ} {v : V} (nd : (kvs.map (·.1)).Nodup) (h : (k, v) ∈ kvs) : valV kvs k = some v := by
  induction kvs with
  | nil => cases h
  | cons p r ih =>
    rw [List.map_cons, List.nodup_cons] at nd
    rcases List.mem_cons.mp h with e | h
    · rw [← e]
      exact valV_pos rfl
    · have hne : ¬ p.1 = k := fun z => nd.1 (by rw [z]; exact List.mem_map.mpr ⟨_, h, rfl⟩)
      rw [valV_neg hne]
      exact ih nd.2 h
theorem putK_old {kvs : List (κ × V)} {k : κ} (v : V) (h : (valV kvs k).isSome = true) : putK kvs k v = kvs.map (fun kv => if kv.1 = k then (kv.1, v) else kv) := by
  unfold putK
  rw [valV_any, if_pos h]
theorem putK_keys {kvs : List (κ × V)} {k : κ} (v : V) (h : (valV kvs k).isSome = true) : (putK kvs k v).map (·.1) = kvs.map (·.1) := by
  rw [putK_old v h, List.map_map]
  refine List.map_congr_left fun p _ => ?_
  show (if p.1 = k then (p.1, v) else p).1 = p.1
  split <;> rfl
theorem putK_nd {kvs : List (κ × V)} {k : κ} (v : V) (nd : (kvs.map (·.1)).Nodup) : ((putK kvs k v).map (·.1)).Nodup := by
  cases h : valV kvs k with
  | none =>
    rw [putK_new v h, List.map_append]
    refine List.nodup_append.mpr ⟨nd, by simp, fun a ha b hb => ?_⟩
    simp only [List.map_cons, List.map_nil, List.mem_singleton] at hb
    rintro rfl
    rw [hb] at ha
    obtain ⟨⟨x, y⟩, hm, hx⟩ := List.mem_map.mp ha
    have hx : x = k := hx
    rw [hx] at hm
    rw [mem_valV nd hm] at h
    cases h
  | some x =>
    rw [putK_keys v (by rw [h]; rfl)]
    exact nd
theorem putK_len {kvs : List (κ × V)} {k : κ} (v : V) : (putK kvs k v).length ≤ kvs.length + 1 := by
  unfold putK
  split
  · rw [List.length_map]
    omega
  · rw [List.length_append]
    simp
theorem putK_mem {kvs : List (κ × V)} {k : κ} {v : V} {p : κ × V} (h : p ∈ putK kvs k v) : p ∈ kvs ∨ p = (k, v) := by
  unfold putK at h
  split at h
  · obtain ⟨q, hq, e⟩ := List.mem_map.mp h
    split at e
    · rename_i hk
      rw [hk] at e
      exact .inr e.symm
    · rw [← e]
      exact .inl hq
  · rcases List.mem_append.mp h with h | h
    · exact .inl h
    · exact .inr (List.mem_singleton.mp h)
end
/-- the years: pairs (letter, name) to ints; a unit begins at 0 or later and ends no earlier than it begins -/
structure DAt (kvs : DT) : Prop where
  nd : (kvs.map (·.1)).Nodup
  ks : ∀ e ∈ kvs, ∃ (c n : Str) (i : Int), e = (key c n, .int i)
  be : ∀ (n : Str) (i : Int), valV kvs (key "b" n) = some (.int i) → 0 ≤ i ∧ ∃ j : Int, valV kvs (key "e" n) = some (.int j) ∧ i ≤ j
  ln : kvs.length ≤ 60
theorem be_ne : ¬ ("b" : Str) = "e" := by decide +kernel
theorem DAt.int {kvs : DT} (d : DAt kvs) {k : List Key} {v : V} (h : valV kvs k = some v) : ∃ i : Int, v = .int i := by
  obtain ⟨c, n, i, e⟩ := d.ks _ (valV_mem h)
  exact ⟨i, congrArg Prod.snd e⟩
theorem DAt.nil : DAt [] := ⟨List.nodup_nil, fun _ h => (nomatch h), fun _ _ h => (nomatch h), Nat.zero_le _⟩
theorem DAt.put2 {kvs : DT} (d : DAt kvs) {n : Str} {lo hi : Int} (h0 : 0 ≤ lo) (h1 : lo ≤ hi) (hl : kvs.length ≤ 58) : DAt (putK (putK kvs (key "b" n) (.int lo)) (key "e" n) (.int hi)) := by
  refine ⟨putK_nd _ (putK_nd _ d.nd), fun e he => ?_, fun m i hm => ?_, ?_⟩
  · rcases putK_mem he with he | rfl
    · rcases putK_mem he with he | rfl
      · exact d.ks e he
      · exact ⟨_, _, _, rfl⟩
    · exact ⟨_, _, _, rfl⟩
  · rw [valV_put, if_neg (fun z => be_ne (key_inj z).1), valV_put] at hm
    rw [valV_put, valV_put]
    by_cases e : m = n
    · subst e
      rw [if_pos rfl] at hm
      cases hm
      exact ⟨h0, hi, by rw [if_pos rfl], h1⟩
    · rw [if_neg (fun z => e (key_inj z).2)] at hm
      obtain ⟨i0, j, hj, ij⟩ := d.be m i hm
      exact ⟨i0, j, by rw [if_neg (fun z => e (key_inj z).2), if_neg (fun z => be_ne (key_inj z).1.symm)]; exact hj, ij⟩
  · have e1 := putK_len (kvs := kvs) (k := key "b" n) (.int lo)
    have e2 := putK_len (kvs := putK kvs (key "b" n) (.int lo)) (k := key "e" n) (.int hi)
    omega
/-- another letter than b and e -/
theorem DAt.put1 {kvs : DT} (d : DAt kvs) {c n : Str} {i : Int} (hb : ¬ c = "b") (he : ¬ c = "e") (hl : kvs.length ≤ 59) : DAt (putK kvs (key c n) (.int i)) := by
  refine ⟨putK_nd _ d.nd, fun e he => ?_, fun m i hm => ?_, ?_⟩
  · rcases putK_mem he with he | rfl
    · exact d.ks e he
    · exact ⟨_, _, _, rfl⟩
  · rw [valV_put, if_neg (fun z => hb (key_inj z).1.symm)] at hm
    rw [valV_put, if_neg (fun z => he (key_inj z).1.symm)]
    exact d.be m i hm
  · have e1 := putK_len (kvs := kvs) (k := key c n) (.int i)
    omega
/-- a beginning made earlier -/
theorem DAt.putB {kvs : DT} (d : DAt kvs) {n : Str} {i k : Int} (h : valV kvs (key "b" n) = some (.int i)) (h0 : 0 ≤ k) (h1 : k ≤ i) : DAt (putK kvs (key "b" n) (.int k)) := by
  refine ⟨putK_nd _ d.nd, fun e he => ?_, fun m x hm => ?_, ?_⟩
  · rcases putK_mem he with he | rfl
    · exact d.ks e he
    · exact ⟨_, _, _, rfl⟩
  · rw [valV_put] at hm
    rw [valV_put, if_neg (fun z => be_ne (key_inj z).1.symm)]
    by_cases e : m = n
    · subst e
      rw [if_pos rfl] at hm
      cases hm
      obtain ⟨_, j, hj, ij⟩ := d.be _ _ h
      exact ⟨h0, j, hj, by omega⟩
    · rw [if_neg (fun z => e (key_inj z).2)] at hm
      exact d.be m x hm
  · have e2 := congrArg List.length (putK_keys (kvs := kvs) (k := key "b" n) (.int k) (by rw [h]; rfl))
    rw [List.length_map, List.length_map] at e2
    rw [e2]
    exact d.ln
/-! ### the units -/
def ukey (e : List Key × V) : Option Str := match e.1 with
  | [.inr c, .inr n] => if c = "b" then some n else none
  | _ => none
def ukeys (kvs : DT) : List Str := kvs.filterMap ukey
theorem ukey_key {c n : Str} {v : V} : ukey (key c n, v) = if c = "b" then some n else none := rfl
theorem mem_ukeys {kvs : DT} {n : Str} : n ∈ ukeys kvs ↔ ∃ v, (key "b" n, v) ∈ kvs := by
  unfold ukeys
  rw [List.mem_filterMap]
  constructor
  · rintro ⟨⟨k, v⟩, hm, hu⟩
    unfold ukey at hu
    split at hu
    · rename_i c m e
      split at hu
      · rename_i hc
        cases hu
        have e : k = [Sum.inr c, Sum.inr n] := e
        rw [hc] at e
        exact ⟨v, by rw [e] at hm; exact hm⟩
      · cases hu
    · cases hu
  · rintro ⟨v, hm⟩
    exact ⟨_, hm, by rw [ukey_key, if_pos rfl]⟩
theorem ukeys_val {kvs : DT} (d : DAt kvs) {n : Str} : n ∈ ukeys kvs ↔ ∃ i : Int, valV kvs (key "b" n) = some (.int i) := by
  rw [mem_ukeys]
  constructor
  · rintro ⟨v, hm⟩
    have h := mem_valV d.nd hm
    obtain ⟨i, rfl⟩ := d.int h
    exact ⟨i, h⟩
  · rintro ⟨i, h⟩
    exact ⟨_, valV_mem h⟩
theorem ukeys_nd {kvs : DT} (nd : (kvs.map (·.1)).Nodup) : (ukeys kvs).Nodup := by
  induction kvs with
  | nil => exact List.nodup_nil
  | cons p r ih =>
    rw [List.map_cons, List.nodup_cons] at nd
    unfold ukeys
    rw [List.filterMap_cons]
    cases h : ukey p with
    | none => exact ih nd.2
    | some n =>
      refine List.nodup_cons.mpr ⟨fun hm => ?_, ih nd.2⟩
      obtain ⟨v, hv⟩ := mem_ukeys.mp (show n ∈ ukeys r from hm)
      refine nd.1 ?_
      have e : p.1 = key "b" n := by
        unfold ukey at h
        split at h
        · rename_i c m e
          split at h
          · rename_i hc
            cases h
            rw [e, hc]
          · cases h
        · cases h
      rw [e]
      exact List.mem_map.mpr ⟨_, hv, rfl⟩
theorem ukeys_len (kvs : DT) : (ukeys kvs).length ≤ kvs.length := List.length_filterMap_le _ _
theorem ukeys_snoc {kvs : DT} {i : Nat} {e : List Key × V} (h : kvs[i]? = some e) : ukeys (kvs.take (i + 1)) = ukeys (kvs.take i) ++ (ukey e).toList := by
  unfold ukeys
  rw [List.take_add_one, h, List.filterMap_append]
  show _ ++ List.filterMap ukey [e] = _
  rw [List.filterMap_cons]
  cases ukey e <;> rfl
end
section
open PySem PySem.Spec PyProof.Rows L2
section
variable {prog : Program} {w : World} {κ : Type} [DecidableEq κ] {kd : HeapKind prog w κ} {A : Around} {E : Value → Shared → Prop} {s : Shared}
/-- two dicts of heap keys that show the same values: == walks the first one -/
theorem same_heap {nm : String} {a b : Addr} {xa xb : List (κ × Addr × Value)} {Q : Bool → Shared → Prop} (na : (a == sysModules) = false) (nb : (b == sysModules) = false) (hu : kd.room A)
    (da : s.heap.DictOfH kd a xa) (db : s.heap.DictOfH kd b xb) (hl : xa.length = xb.length)
    (hv : ∀ k c v, (k, c, v) ∈ xa → ∃ p, atKey xb k = some p ∧ ∀ (R E : _ → Shared → Prop), R true s → wpAny (model prog w) A (eqBool v p.2) R E s) (h : Q true s) : wpAny (model prog w) A (Builtin.Dict.samePairs nm a b) Q E s := by
  obtain ⟨oa, ea, pa, la, _, qa, ta, ia, ka⟩ := da
  obtain ⟨ob, eb, pb, lb, _, qb, tb, ib, kb⟩ := db
  have za : ea.size = xa.length := size_of_entries ta
  have zb : eb.size = xb.length := size_of_entries tb
  unfold Builtin.Dict.samePairs Builtin.Dict.showsAll
  rw [if_neg (show ¬ (a == sysModules) = true by rw [na]; simp), if_neg (show ¬ (b == sysModules) = true by rw [nb]; simp)]
  refine wpAny_bind (wpAny_pure (wpAny_bind (wpAny_pure (wpAny_bind (wpAny_dictEntries la qa ?_)))))
  dsimp only
  refine wpAny_bind (wpAny_dictEntries lb qb ?_)
  rw [if_neg (by rw [za, zb, hl]; simp)]
  refine wpAny_bind (wpAny_dictEpoch la qa (wpAny_bind ?_))
  rw [Std.Legacy.Range.forIn_eq_forIn_range']
  simp only [Std.Legacy.Range.size, Nat.sub_zero, Nat.add_sub_cancel, Nat.div_one]
  refine wpAny_forIn_list _ (fun rest q t => t = s ∧ q = (none, ()) ∧ ∃ i, i ≤ ea.size ∧ rest = List.range' i (ea.size - i)) _ ?_ ?_ _ _ ⟨rfl, rfl, 0, Nat.zero_le _, by simp⟩
  · rintro x rest q t ⟨rfl, rfl, i, hi, hr⟩
    have hlt : i < ea.size := by
      by_cases z : i < ea.size
      · exact z
      · rw [Nat.sub_eq_zero_of_le (Nat.le_of_not_lt z)] at hr
        cases hr
    rw [show ea.size - i = (ea.size - (i + 1)) + 1 by omega, List.range'_succ] at hr
    injection hr with h1 h2
    subst h1
    have hx : x < xa.length := by omega
    obtain ⟨k, c, v⟩ : κ × Addr × Value := xa[x]
    obtain ⟨k, c, v, hg⟩ : ∃ k c v, xa[x]? = some (k, c, v) := ⟨_, _, _, List.getElem?_eq_getElem hx⟩
    have he : ea[x]? = some ⟨kd.hash k, .ref c, v⟩ := by
      rw [entry_at ta x, hg]
      rfl
    have hm : (k, c, v) ∈ xa := List.mem_of_getElem? hg
    obtain ⟨p, hp, heq⟩ := hv k c v hm
    refine wpAny_bind (wpAny_dictEntries la qa ?_)
    rw [he]
    dsimp only
    refine wpAny_bind (wpAny_holding (wpAny_bind (wpAny_dictFind_heap hu (ia _ hm) lb qb tb ib kb (fun hno => ?_) (fun j p' hj => ?_))))
    · rw [atKey_none_of_get hno] at hp
      cases hp
    · have ep : p' = p := Option.some.inj ((atKey_of_get kb hj).symm.trans hp)
      subst ep
      have hf : eb[j]? = some ⟨kd.hash k, .ref p'.1, p'.2⟩ := by
        rw [entry_at tb j, hj]
        rfl
      dsimp only
      refine wpAny_bind (wpAny_dictEntries lb qb ?_)
      rw [hf]
      dsimp only
      refine wpAny_holding (heq _ _ ?_)
      show wpAny _ _ (if (!true) = true then _ else _) _ _ _
      rw [if_neg (by decide)]
      refine wpAny_bind (wpAny_dictEpoch la qa ?_)
      rw [if_neg (by simp)]
      exact wpAny_pure ⟨rfl, rfl, x + 1, hlt, h2⟩
  · rintro q t ⟨rfl, rfl, i, hi, hr⟩
    exact wpAny_pure h
end
section
variable {X : Cx}
/-- == of two dicts with tuple keys: the same ints -/
def rEqDT : R2 := fun x y H Q => ∃ (a b : Addr) (ks ls : DT), x = .ref a ∧ y = .ref b ∧ H a = some (.dT ks) ∧ H b = some (.dT ls) ∧ ks.length = ls.length ∧ (∀ p ∈ ks, ∃ i : Int, p.2 = .int i ∧ valV ls p.1 = some (.int i)) ∧ Q (.bl true) H
theorem op_eqDT (hu : X.A.units + 1 < cLine) : OpR X (compareOp .Eq) rEqDT := by
  intro pins s σ H x y v u Q I rx ry h
  obtain ⟨a, b, ks, ls, rfl, rfl, ea, eb, hl, hp, q⟩ := h
  obtain rfl : v = Value.ref a := rx
  obtain rfl : u = Value.ref b := ry
  obtain ⟨_, na, xa, ra, da⟩ := dt_of I.hok ea
  obtain ⟨_, nb, xb, rb, db⟩ := dt_of I.hok eb
  have hlen : xa.length = xb.length := by rw [← Paired.length ra, ← Paired.length rb]; exact hl
  refine wpAny_richCompare_same_room (op := .Eq) da.typeIs db.typeIs PySem.F.slot_dict_eq (wpAny_call_entry PySem.F.slot_dict_eq da.typeIs PySem.F.entry_dict_eq ?_ (PySem.F.args_dict_eq_2 _ _)) (by omega)
  show wpAny _ _ (Builtin.Dict.dictSlotArgs "__eq__" ⟨[.ref a, .ref b], []⟩ >>= _) _ _ s
  refine wpAny_bind ?_
  unfold Builtin.Dict.dictSlotArgs
  refine wpAny_bind (wpAny_notOrdered_dict da.typeIs ?_)
  show wpAny _ _ (pure (Value.ref a, Value.ref b)) _ _ s
  refine wpAny_pure (wpAny_bind (wpAny_isInstance (T := "dict") db.typeIs PySem.F.sub_dict_dict ?_))
  simp only [Bool.not_true, Bool.false_eq_true, if_false]
  refine wpAny_bind (wpAny_pure (wpAny_bind (wpAny_pure (wpAny_bind (same_heap (kd := tupleKind (mixKind X.prog X.w)) na nb (tupleKind_room_in1 hu) da db hlen (fun k c z hm => ?_) ?_)))))
  · obtain ⟨j, hj⟩ := List.getElem?_of_mem hm
    obtain ⟨p, hpj, e1, e2, e3⟩ := L2.DX.pget ra hj
    obtain ⟨i, ei, el⟩ := hp p (List.mem_of_getElem? hpj)
    have e1 : p.1 = k := e1
    rw [ei] at e3
    obtain ⟨t1, ez⟩ : ∃ t, z = Value.int i t := e3
    rw [e1] at el
    have r := rb.val k
    rw [el] at r
    cases hk : atKey xb k with
    | none =>
      rw [hk] at r
      exact False.elim r
    | some p2 =>
      rw [hk] at r
      obtain ⟨t2, e4⟩ : ∃ t, p2.2 = Value.int i t := r
      refine ⟨p2, rfl, fun R E hR => ?_⟩
      rw [ez, e4]
      refine wpAny_eqBool_int ?_
      rw [beq_self_eq_true]
      exact hR
  · exact wpAny_pure ⟨_, rfl, fun z => (nomatch z), ⟨.bl true, H, I, rfl, q⟩⟩
end
end
section
open PySem PySem.Spec PyProof.Rows L2
/-! ### rows of texts in the order of their letters -/
def ltL : List Str → List Str → Bool
  | [], [] => false
  | [], _ :: _ => true
  | _ :: _, [] => false
  | x :: r, y :: t => if x = y then ltL r t else decide (x.cps.toList < y.cps.toList)
theorem cps_ne {x y : Str} (h : ¬ x = y) (n : ¬ x.cps.toList < y.cps.toList) : y.cps.toList < x.cps.toList := by
  rcases Classical.em (y.cps.toList < x.cps.toList) with z | z
  · exact z
  · refine absurd ?_ h
    have e : x.cps.toList = y.cps.toList := List.le_antisymm z n
    cases x with
    | mk a => cases y with
      | mk b => rw [show a = b from Array.toList_inj.mp e]
theorem cps_irr (x : Str) : ¬ x.cps.toList < x.cps.toList := List.lt_irrefl _
theorem ltL_asym : ∀ x y : List Str, ltL x y = true → ltL y x = false
  | [], [], h => nomatch h
  | [], _ :: _, _ => rfl
  | _ :: _, [], h => nomatch h
  | x :: r, y :: t, h => by
    unfold ltL at h ⊢
    by_cases e : x = y
    · rw [if_pos e] at h
      rw [if_pos e.symm]
      exact ltL_asym r t h
    · rw [if_neg e] at h
      rw [if_neg (fun z => e z.symm)]
      exact decide_eq_false (fun z => cps_irr x (List.lt_trans (of_decide_eq_true h) z))
theorem ltL_tr : ∀ x y z : List Str, ltL y x = false → ltL z y = false → ltL z x = false
  | [], _, [], _, _ => rfl
  | [], [], _ :: _, _, h => rfl
  | [], _ :: _, _ :: _, _, h => rfl
  | _ :: _, [], _, h, _ => nomatch h
  | _ :: _, _ :: _, [], _, h => nomatch h
  | x :: r, y :: t, z :: u, h1, h2 => by
    unfold ltL at h1 h2 ⊢
    by_cases e1 : y = x
    · subst e1
      rw [if_pos rfl] at h1
      by_cases e2 : z = y
      · rw [if_pos e2] at h2 ⊢
        exact ltL_tr r t u h1 h2
      · rw [if_neg e2] at h2 ⊢
        exact h2
    · rw [if_neg e1] at h1
      by_cases e2 : z = y
      · subst e2
        rw [if_neg e1]
        exact h1
      · rw [if_neg e2] at h2
        have g1 := cps_ne e1 (of_decide_eq_false h1)
        have g2 := cps_ne e2 (of_decide_eq_false h2)
        have g := List.lt_trans g1 g2
        rw [if_neg (fun e => cps_irr x (by rw [e] at g; exact g))]
        exact decide_eq_false (fun q => cps_irr x (List.lt_trans g q))
theorem swo_texts (k : Value → List Str) : SrtO.Swo fun v u => ltL (k v) (k u) := ⟨fun x y h => ltL_asym _ _ h, fun x y z h1 h2 => ltL_tr _ _ _ h1 h2⟩
/-- the tuple of texts ks -/
def IsTexts (h : Heap) (v : Value) (ks : List Str) : Prop := ∃ a o xs n, v = Value.ref a ∧ h.get? a = some o ∧ o.cls = .type "tuple" ∧ o.data = .seq xs n ∧ StrsAre xs.toList ks
theorem IsTexts.keeps {h h' : Heap} {v : Value} {ks : List Str} (x : IsTexts h v ks) (k : ∀ b o, h.get? b = some o → o.cls = .type "tuple" → h'.get? b = some o) : IsTexts h' v ks := by
  obtain ⟨a, o, xs, n, e, ho, hc, r⟩ := x
  exact ⟨a, o, xs, n, e, k a o ho hc, hc, r⟩
section
variable {prog : Program} {w : World} {A : Around} {s : Shared}
theorem lex_run : ∀ {xs ys : List Value} {ks ls : List Str}, StrsAre xs ks → StrsAre ys ls → ∀ (i : Nat) (fin : Bool), fin = decide (ks.length < ls.length) → PySem.W.KatLex prog w A true fin (fun r s' => s' = s ∧ r = ltL ks ls) (xs.zip ys) i s
  | [], [], _, _, .nil, .nil, i, fin, hf => PySem.W.kat_nil ⟨rfl, hf⟩
  | [], _ :: _, _, _, .nil, .cons y u r, i, fin, hf => PySem.W.kat_nil ⟨rfl, hf.trans (decide_eq_true (Nat.succ_pos _))⟩
  | _ :: _, [], _, _, .cons x t r, .nil, i, fin, hf => PySem.W.kat_nil ⟨rfl, hf.trans (decide_eq_false (Nat.not_lt_zero _))⟩
  | _ :: _, _ :: _, _, _, .cons (vs := xs) (ys := ks) x t r, .cons (vs := ys) (ys := ls) y u q, i, fin, hf => by
    rw [List.zip_cons_cons]
    refine PySem.W.kat_cons (SeqAt.EqAt.str_str x t y u prog w _ _ ?_)
    refine PySem.W.kat_go (fun e => ?_) (fun e => ?_)
    · have ex : x = y := by simpa using e
      have z := lex_run r q (i + 1) fin (by rw [hf, List.length_cons, List.length_cons]; exact decide_eq_decide.mpr Nat.succ_lt_succ_iff)
      refine PySem.W.kat_yes ?_
      have e2 : ltL (x :: ks) (y :: ls) = ltL ks ls := by
        show (if x = y then ltL ks ls else _) = _
        rw [if_pos ex]
      rw [e2]
      exact z
    · have ex : ¬ x = y := by simpa using e
      have e2 : ltL (x :: ks) (y :: ls) = decide (x.cps.toList < y.cps.toList) := by
        show (if x = y then ltL ks ls else _) = _
        rw [if_neg ex]
      rw [e2]
      refine PySem.W.kat_no ?_
      cases hi : (true && i == 0) with
      | true => exact oneLt_str ⟨rfl, rfl⟩
      | false =>
        refine PySem.W.kat_one _ _ (PyProof.Rows.lt_str ?_)
        exact (show s = s ∧ _ = _ from ⟨rfl, rfl⟩)
theorem texts_cmp {vs : List Value} {k : Value → List Str} (hp : ∀ v ∈ vs, IsTexts s.heap v (k v)) : SrtO.Cmp prog w A s (tuples' true) (fun p => p.1 ∈ vs) (SrtO.lt2 fun v u => ltL (k v) (k u)) := by
  intro p q hm hm'
  obtain ⟨a, o, xs, n, e, ho, hc, hd, hs⟩ := hp _ hm
  obtain ⟨a', o', ys, n', e', ho', hc', hd', hs'⟩ := hp _ hm'
  show wpAny (model prog w) A (keyLt' (tuples' true) p.1 q.1) (fun r s' => s' = s ∧ r = ltL (k p.1) (k q.1)) (fun _ _ => False) s
  generalize k p.1 = ks at hs ⊢
  generalize k q.1 = ls at hs' ⊢
  rw [e, e']
  refine PySem.W.kat_lt ho hd ho' hd' (lex_run hs hs' 0 _ ?_)
  have l1 := hs.length
  have l2 := hs'.length
  rw [Array.length_toList] at l1 l2
  rw [l1, l2]
theorem firsts_texts {h : Heap} {k : Value → List Str} : ∀ {vs : List Value}, (∀ v ∈ vs, IsTexts h v (k v) ∧ k v ≠ []) → ∃ fs, PySem.W.KatTups h vs fs ∧ fs.length = vs.length ∧ ∀ f ∈ fs, ∃ z t, f = Value.str z t
  | [], _ => ⟨[], PySem.W.KatTups.nil, rfl, fun f hf => nomatch hf⟩
  | v :: vs, hp => by
    obtain ⟨fs, h1, h2, h3⟩ := firsts_texts (vs := vs) fun u hu => hp u (List.mem_cons_of_mem _ hu)
    obtain ⟨⟨a, o, xs, n, e, ho, hc, hd, hs⟩, hne⟩ := hp v List.mem_cons_self
    generalize k v = ks at hs hne
    obtain ⟨x, t, r, hx⟩ : ∃ x t r, xs.toList = Value.str x t :: r := by
      generalize xs.toList = l at hs
      cases hs with
      | nil => exact absurd rfl hne
      | cons x t r => exact ⟨x, t, _, rfl⟩
    refine ⟨.str x t :: fs, ?_, by rw [List.length_cons, List.length_cons, h2], fun f hf => ?_⟩
    · rw [e]
      exact PySem.W.KatTups.cons ho hc hd (by rw [← Array.getElem?_toList, hx]; rfl) h1
    · rcases List.mem_cons.mp hf with rfl | hf
      · exact ⟨x, t, rfl⟩
      · exact h3 f hf
theorem texts_sortable {a : Addr} {vs : List Value} {k : Value → List Str} (h0 : 0 < vs.length) (hp : ∀ v ∈ vs, IsTexts s.heap v (k v) ∧ k v ≠ []) (ha : ∀ o, s.heap.get? a = some o → o.cls ≠ .type "tuple") : SrtO.SortableO prog w A s a vs fun v u => ltL (k v) (k u) := by
  intro h' keep
  have hp' : ∀ v ∈ vs, IsTexts h' v (k v) ∧ k v ≠ [] := fun v hm => ⟨(hp v hm).1.keeps fun b o e c => keep b o (fun z => by subst z; exact ha o e c) e, (hp v hm).2⟩
  obtain ⟨fs, h1, h2, h3⟩ := firsts_texts hp'
  refine ⟨tuples' true, fun Q E hq => ?_, texts_cmp fun v hv => (hp' v hv).1⟩
  refine PySem.W.kat_kind (T := .type "str") h1 (by omega) (fun f hm => ?_) (by rfl) ?_
  · obtain ⟨z, t, rfl⟩ := h3 f hm
    exact PySem.W.Looks.now
  · have e : (Value.type "str" != Value.type "tuple") = true := by decide +kernel
    rw [e]
    exact hq
end
/-! ### sorted(..) of tuples of texts: a list of them, or a dict's keys -/
def adr : Value → Addr
  | .ref a => a
  | _ => 0
theorem vals_adr : ∀ {us : List Value}, (∀ u ∈ us, u = Value.ref (adr u)) → Vals ((us.map adr).map V.ref) us
  | [], _ => .nil
  | u :: us, h => .cons (show u = Value.ref (adr u) from h u List.mem_cons_self) (vals_adr fun v hv => h v (List.mem_cons_of_mem _ hv))
theorem refs_adr : ∀ {ts : List Addr} {us : List Value}, Vals (ts.map V.ref) us → us = ts.map Value.ref
  | [], _, r => by cases r; rfl
  | t :: ts, _, r => by
    cases r with
    | cons e r =>
      have e : _ = Value.ref t := e
      rw [e, refs_adr r]
      rfl
theorem map_adr (ts : List Addr) : (ts.map Value.ref).map adr = ts := by
  rw [List.map_map]
  exact List.map_id _
def rSortedTx (K : PySem.W.Frag) : List V → Hp → VK → Prop := fun vs H Q => ∃ (a : Addr) (ts : List Addr) (k : Addr → List Str), vs = [V.ref a] ∧ SqL K H a (ts.map V.ref) ∧ (∀ t ∈ ts, H t = some (.tup ((k t).map V.str)) ∧ k t ≠ []) ∧
  ∀ (ts' : List Addr) (p : Addr), ts'.Perm ts → H p = none → Q (.ref p) (upd H p (.lst (ts'.map V.ref)))
/-- the same, by the keys of a dict -/
def rSortedDT : List V → Hp → VK → Prop := fun vs H Q => ∃ (a : Addr) (kvs : List (List Key × V)) (k : List Key → List Str), vs = [V.ref a] ∧ H a = some (.dT kvs) ∧ (∀ e ∈ kvs, e.1.map kV = (k e.1).map V.str ∧ k e.1 ≠ []) ∧
  ∀ (bs ts' : List Addr) (p : Addr), IsKeys H kvs bs → ts'.Perm bs → H p = none → Q (.ref p) (upd H p (.lst (ts'.map V.ref)))
section
variable {X : Cx} {pins : List (Addr × Obj)} {σ : L2.St} {H : Hp} {s : Shared}
def keyA (k : Addr → List Str) (v : Value) : List Str := k (adr v)
theorem texts_of {ts : List Addr} {k : Addr → List Str} (I : Inv X pins σ H s) (hk : ∀ t ∈ ts, H t = some (.tup ((k t).map V.str)) ∧ k t ≠ []) : ∀ v ∈ ts.map Value.ref, IsTexts s.heap v (keyA k v) ∧ keyA k v ≠ [] := fun v hv => by
  obtain ⟨t, ht, rfl⟩ := List.mem_map.mp hv
  obtain ⟨h1, h2⟩ := hk t ht
  obtain ⟨_, its, r, o, ho, hc, n, hd⟩ := I.hok _ _ h1
  exact ⟨⟨t, o, its.toArray, n, rfl, ho, hc, hd, r.strs⟩, h2⟩
theorem perm_refs {out : List Value} {ts : List Addr} (h : out.Perm (ts.map Value.ref)) : (out.map adr).Perm ts ∧ ∀ u ∈ out, u = Value.ref (adr u) := by
  have z := h.map adr
  rw [map_adr] at z
  refine ⟨z, fun u hu => ?_⟩
  obtain ⟨t, _, rfl⟩ := List.mem_map.mp (h.mem_iff.mp hu)
  rfl
theorem not_tup {h : Heap} {a : Addr} {xs : Array Value} {n : Nat} (e : h.get? a = some (seqObj "list" xs n)) : ∀ o, h.get? a = some o → o.cls ≠ .type "tuple" := fun o e2 => by
  rw [e] at e2
  cases e2
  exact fun c => absurd (Value.type.inj c) (by decide)
theorem cr_sortedTx : CallR X (.builtin "sorted") (rSortedTx X.K) := by
  intro pins s σ H vs us Q I r h
  obtain ⟨a, ts, k, rfl, hs, hk, q⟩ := h
  obtain ⟨its, rv, hl, hz⟩ := I.list hs
  rw [Vals.ref1 r]
  have hT := texts_of I hk
  obtain rfl := refs_adr rv
  refine SrtO.sorted_ord (swo_texts (keyA k)) hl.isList (by rw [← rv.length]; exact hz) (fun h2 g a' ga gk => texts_sortable (s := { s with heap := g }) (by omega) (fun v hv => ⟨(hT v hv).1.keeps fun b o e _ => (gk b o e).2, (hT v hv).2⟩) (not_tup ga)) fun out h1 h2 => ?_
  obtain ⟨p1, p2⟩ := perm_refs h2.perm
  obtain ⟨ep, he⟩ := PyProof.Rows.sortedAll_at s.heap (ts.map Value.ref) out.toArray
  have hlen : ((out.map adr).map V.ref).length ≤ sizeLine := by
    rw [List.length_map] at hz ⊢
    rw [p1.length_eq]
    exact hz
  exact ⟨.ref _, upd H (s.heap.objs.size + 1) (.lst ((out.map adr).map V.ref)), I.laid (t' := s.toks) (fun _ _ => PyProof.Rows.sortedAll_old) (Nat.le_succ _) ⟨hlen, out, ep, vals_adr p2, he⟩, rfl, q _ _ p1 (I.hok.fresh (Nat.le_succ _))⟩
theorem cr_sortedDT (hc : X.calm = true) : CallR X (.builtin "sorted") rSortedDT := by
  intro pins s σ H vs us Q I r h
  obtain ⟨d, kvs, k, rfl, hd, hk, q⟩ := h
  rw [Vals.ref1 r]
  obtain ⟨z, hs, ks, pr, o, es, ep, ho, hx, hdt, he, hn⟩ := I.hok _ _ hd
  have l1 : es.size = ks.length := size_of_entries he
  have l2 : kvs.length = ks.length := Paired.length pr
  have keys := isKeys_of pr
  refine Calls.call_function_entry PyProof.Rows.kind_sorted PyProof.Rows.plain_sorted PyProof.Rows.entry_sorted (PyProof.Rows.args_sorted1 _) ?_
  unfold Builtin.«sorted»
  refine wpAny_bind (m := checkCount "sorted" 1 1 _) (wpAny_pure ?_)
  refine wpAny_bind (PySem.W.kdu_collect (A := X.A.in1) (kdl_raw hs hx hdt) (I.ok.hd hc) ho (by omega) fun g tk acc gk it => ?_)
  have ea : acc.toList = (ks.map fun x => x.2.1).map Value.ref := by
    refine List.ext_getElem? fun j => ?_
    rw [List.getElem?_map, List.getElem?_map]
    by_cases hj : j < ks.length
    · have hj2 : j < acc.toList.length := by rw [Array.length_toList, it.1]; omega
      obtain ⟨en, hen, hv⟩ := it.2 j acc.toList[j] (by rw [← Array.getElem?_toList]; exact List.getElem?_eq_getElem hj2)
      have qe := entry_at he j
      rw [hen, List.getElem?_eq_getElem hj] at qe
      have e2 : en = entryOfKey (tupleKind (mixKind X.prog X.w)) ks[j] := Option.some.inj qe
      rw [List.getElem?_eq_getElem hj2, List.getElem?_eq_getElem hj, hv, e2]
      rfl
    · rw [List.getElem?_eq_none (by rw [Array.length_toList, it.1]; omega), List.getElem?_eq_none (by omega)]
      rfl
  generalize hbs : (ks.map fun x => x.2.1) = bs at ea keys
  have lbs : bs.length = kvs.length := by rw [← hbs, List.length_map]; omega
  have I1 : Inv X pins σ H { s with heap := g, toks := tk } := I.kept gk
  obtain ⟨kA, hkA⟩ : ∃ kA : Addr → List Str, ∀ t ∈ bs, H t = some (.tup ((kA t).map V.str)) ∧ kA t ≠ [] := by
    have all : ∀ t ∈ bs, ∃ ss : List Str, H t = some (.tup (ss.map V.str)) ∧ ss ≠ [] := by
      clear ea lbs hbs hd pr l2 q z
      unfold IsKeys at keys
      intro t ht
      induction keys with
      | nil => exact nomatch ht
      | cons h t' ih =>
        rename_i p b l m
        rcases List.mem_cons.mp ht with rfl | ht
        · obtain ⟨e1, e2⟩ := hk p List.mem_cons_self
          exact ⟨_, by rw [h, e1], e2⟩
        · exact ih (fun e he => hk e (List.mem_cons_of_mem _ he)) ht
    classical
    refine ⟨fun t => if h : ∃ ss : List Str, H t = some (.tup (ss.map V.str)) ∧ ss ≠ [] then h.choose else [], fun t ht => ?_⟩
    have h := all t ht
    dsimp only
    rw [dif_pos h]
    exact h.choose_spec
  have hT := texts_of I1 hkA
  rw [ea]
  have hz : (bs.map Value.ref).length ≤ sizeLine := by rw [List.length_map]; omega
  refine wpAny_bind (wpAny_newList ?_ hz)
  have hoL : (g.push (seqObj "list" (bs.map Value.ref).toArray 0)).get? g.objs.size = some (seqObj "list" (bs.map Value.ref).toArray 0) := Heap.get?_push_size _ rfl
  show wpAny _ _ _ _ _ { s with heap := g.push (seqObj "list" (bs.map Value.ref).toArray 0), toks := tk }
  refine wpAny_bind (wpAny_holding (wpAny_call_entry PyProof.Rows.slot_list_sort ⟨_, hoL, rfl⟩ PyProof.Rows.entry_list_sort
    (SrtO.list_sort_ord (s := { s with heap := g.push (seqObj "list" (bs.map Value.ref).toArray 0), toks := tk }) (swo_texts (keyA kA)) hoL hz (fun h2 => texts_sortable (by omega) (fun v hv => ⟨(hT v hv).1.keeps fun b o e _ => Heap.get?_push_of_some _ e, (hT v hv).2⟩) (not_tup hoL)) fun out h1 h2 => ⟨_, rfl, ?_⟩)
    (PyProof.Rows.args_list_sort _)))
  obtain ⟨p1, p2⟩ := perm_refs h2.perm
  obtain ⟨e', he'⟩ := PyProof.Rows.sortedHeap_at (vs := bs.map Value.ref) (out := out.toArray) hoL
  have hlen : ((out.map adr).map V.ref).length ≤ sizeLine := by
    rw [List.length_map] at hz ⊢
    rw [p1.length_eq]
    exact hz
  refine wpAny_pure ⟨_, rfl, .ref g.objs.size, upd H g.objs.size (.lst ((out.map adr).map V.ref)), I1.laid (t' := tk) (fun b u e => ?_) (Nat.le_refl _) ⟨hlen, out, e', vals_adr p2, he'⟩, rfl, q bs _ _ keys p1 (I1.hok.fresh (Nat.le_refl _))⟩
  have hb : b < g.objs.size := Heap.lt_size e
  rw [PyProof.Rows.sortedHeap_old (Nat.ne_of_lt hb) (by rw [size_push']; exact Nat.lt_succ_of_lt hb)]
  exact Heap.get?_push_of_some _ e
end
end
section
open PySem PySem.Spec PyProof.Rows L2
/-! ### {elt for target in iter if ..}, elt a whole number -/
abbrev emptySet (w : World) : Obj := { cls := .type "set", dict := none, data := .set #[] 0 (.fresh 0 0 (!w.params.followText "set-order")) }
/-- the set at D after n adds and one more -/
abbrev addO (w : World) (D : Addr) (S : Int → Bool) (n : Nat) (c : Int) : HO := SetO w D (fun j => S j || decide (j = c)) (if S c = true then n else n + 1)
def ScW (w : World) (J : It) (g : TG) (tt : TT) (te : TE) (vs : List Nat) (σ : L2.St) (D : Addr) (H1 : Hp) (Q : VK) : Prop :=
  ∃ W : Nat → Nat → Hp → Prop, (∃ m, W 0 m (upd H1 D (SetO w D (fun _ => false) 0))) ∧ ∀ i m H, W i m H → (J.stop i H ∧ Q (.ref D) H) ∨ (J.go i H ∧ ∃ Nx : Hp → Prop, (∀ H', Nx H' → ∃ m', m' < m ∧ W (i + 1) m' H') ∧
    ∀ x H', J.yld i H x H' → g x (wipe σ vs) H' fun σ2 H2 => wipe σ2 vs = wipe σ vs ∧ tt σ2 H2 fun b H3 => if b = true then te σ2 H3 fun y H4 => ∃ (c : Int) (S : Int → Bool) (n : Nat), y = .int c ∧ H4 D = some (SetO w D S n) ∧ n ≤ 100 ∧ Nx (upd H4 D (addO w D S n c)) else Nx H3)
def tScI (w : World) (wi : TI) (g : TG) (tt : TT) (te : TE) (vs : List Nat) : TE := fun σ H Q => wi σ H fun J H1 => ∀ D, H1 D = none → ScW w J g tt te vs σ D H1 Q
section
variable {X : Cx}
theorem add_run {pins : List (Addr × Obj)} {σ : L2.St} {H : Hp} {s : Shared} {E : Value → Shared → Prop} {D : Addr} {S : Int → Bool} {n : Nat} {c : Int} {t : Tok} {Q : Value → Shared → Prop} (I : Inv X pins σ H s) (hD : H D = some (SetO X.w D S n)) (hn : n ≤ 100)
    (q : ∀ s', Inv X pins σ (upd H D (addO X.w D S n c)) s' → Q .none s') : wpAny (model X.prog X.w) X.A (call (.builtin "set.add") [.ref D, .int c t]) Q E s := by
  refine setR_add (setO_get I hD) (Nat.lt_of_le_of_lt (Nat.succ_le_succ hn) (by decide)) fun g sb new => ?_
  have there : ∃ u, g.get? D = some u := by
    have ⟨o, _, _, _, ho, _⟩ := new
    exact ⟨o, ho⟩
  exact q _ (I.write (e := D) (t' := s.toks + 1) (by rw [hD]; trivial) (.inl rfl) (fun b u hb z => (sb.2 b hb).trans z) there (setO_new new))
theorem pe_scI {elt tg iter : Expr} {ifs : List Expr} {scope : Scope} {own : List (Str × Nat)} {pos : Pos} {wi : TI} {g : TG} {tt : TT} {te : TE} (hc : X.calm = true) (hN : X.N.Nodup) (hi : PI X tg iter wi) (ok : BlkOk X.N X.env.scope scope own)
    (hg : ∀ s H C cl fp, PG (X.blk s H scope (compEnvC scope cl C X.env) fp) tg g) (ht : ∀ s H C cl fp, PTs (X.blk s H scope (compEnvC scope cl C X.env) fp) ifs tt) (he : ∀ s H C cl fp, PE (X.blk s H scope (compEnvC scope cl C X.env) fp) elt te)
    (hs : ∀ x, foldedSetIterable iter X.env x = pure x := by intro _; rfl) : PE X (.SetComp elt [⟨tg, iter, ifs, 0⟩] scope pos) (tScI X.w wi g tt te (own.map (·.2))) := by
  refine ⟨fun pins s σ H Q I hyp => ?_⟩
  rw [PpSet.eval_SetComp]
  have free_ok : ∀ y ∈ scope.names, y.2 = .free → ∃ c, X.env.cells.lookup y.1 = some c := fun y hy z => (ok.free y hy z).elim (fun k => I.ok.has _ (.inl k)) fun k => I.ok.has _ (.inr k)
  refine wpAny_comprehension_free (use := none) rfl hs (closure_ok free_ok) ok.kind (fun y hy z => by rw [ok.uniq y hy, z]) (thn (hi.run pins s σ H _ I hyp) fun v sA hA => thn hA fun itv sB hB => ?_)
  obtain ⟨it, fp, tn, J, HB, rfl, IB, T, tB, fB, q⟩ := hB
  refine PpSet.newSet_ok (newEnv_comp ?_)
  have nD : HB sB.heap.objs.size = none := IB.hok.fresh (Nat.le_refl _)
  obtain ⟨W, ⟨mW, wW⟩, turn⟩ := q _ nD
  -- the set is laid
  obtain ⟨sC, hsC⟩ : ∃ sC : Shared, sC = { sB with heap := sB.heap.push (emptySet X.w) } := ⟨_, rfl⟩
  have IC : Inv X pins σ (upd HB sB.heap.objs.size (SetO X.w sB.heap.objs.size (fun _ => false) 0)) sC := by
    rw [hsC]
    exact IB.laid (t' := sB.toks) (fun b o z => Heap.get?_push_of_some _ z) (Nat.le_refl _) (setO_new (setR_fresh X.w))
  have hC : sC.heap = sB.heap.push (emptySet X.w) := by rw [hsC]
  have keepC : ∀ b o, sB.heap.get? b = some o → sC.heap.get? b = some o := fun b o z => by rw [hC]; exact Heap.get?_push_of_some _ z
  have fC : ∀ b ∈ fp, FpOk X pins (upd HB sB.heap.objs.size (SetO X.w sB.heap.objs.size (fun _ => false) 0)) b ∧ b < sC.heap.objs.size := fun b hb => by
    obtain ⟨o, z, _⟩ := T.obj _ _ tB b hb
    have lt := Heap.lt_size z
    exact ⟨⟨by rw [upd_ne (Nat.ne_of_lt lt)]; exact (fB b hb).1, (fB b hb).2⟩, by rw [hC, Heap.size_push]; exact Nat.lt_succ_of_lt lt⟩
  have tC : tn 0 sC.heap := T.keep _ _ _ tB fun b _ o z => keepC b o z
  have ID := block_start IC ok hN fC
  have gg := hg sC (upd HB sB.heap.objs.size (SetO X.w sB.heap.objs.size (fun _ => false) 0)) sC.heap.objs.size (cellsFrom (sC.heap.objs.size + 1) scope.names (cloFrom X.env.cells scope.names [])) fp
  have gt := ht sC (upd HB sB.heap.objs.size (SetO X.w sB.heap.objs.size (fun _ => false) 0)) sC.heap.objs.size (cellsFrom (sC.heap.objs.size + 1) scope.names (cloFrom X.env.cells scope.names [])) fp
  have ge := he sC (upd HB sB.heap.objs.size (SetO X.w sB.heap.objs.size (fun _ => false) 0)) sC.heap.objs.size (cellsFrom (sC.heap.objs.size + 1) scope.names (cloFrom X.env.cells scope.names [])) fp
  rw [← hsC]
  generalize sB.heap.objs.size = D at *
  generalize hHC : upd HB D (SetO X.w D (fun _ => false) 0) = HC at *
  obtain ⟨ce, hce⟩ : ∃ ce, ce = compEnvC scope (cellsFrom (sC.heap.objs.size + 1) scope.names (cloFrom X.env.cells scope.names [])) sC.heap.objs.size X.env := ⟨_, rfl⟩
  have locC : ce.locals = sC.heap.objs.size := by rw [hce]; rfl
  rw [← hce] at ID gg gt ge
  show codeAny _ _ (.compStart (.SetComp elt [⟨tg, iter, ifs, 0⟩] scope pos) 0 (.ref it) (.ref D) (compEnvC scope (cellsFrom (sC.heap.objs.size + 1) scope.names (cloFrom X.env.cells scope.names [])) sC.heap.objs.size X.env)) (compPost (model X.prog X.w) X.A X.xe none (EP X pins σ Q) (.ref D) sC.heap.objs.size) { sC with heap := pushCells (sC.heap.push { cls := .type "dict", data := .dict #[] }) scope.names }
  rw [← hce]
  have tD : tn 0 (pushCells (sC.heap.push { cls := .type "dict", data := .dict #[] }) scope.names) := T.keep _ _ _ tC fun b _ o z => pushCells_keeps _ _ _ _ (Heap.get?_push_of_some _ z)
  have still : ∀ {σ' : L2.St} {H' : Hp} {s' : Shared}, Inv (X.blk sC HC scope ce fp) [] σ' H' s' → (∀ b ∈ fp, H' b = none) → ∀ b ∈ fp, FpOk (X.blk sC HC scope ce fp) [] H' b := fun J' z b hb => ⟨z b hb, (J'.ok.exf b hb).1, J'.ok.exfs b hb, .inl hb, fun x c e => (J'.ok.exf b hb).2 x c e, fun p hp => nomatch (show p ∈ ([] : List (Addr × Obj)) from hp)⟩
  have loop : codeAny (model X.prog X.w) X.A (.compLoop (.SetComp elt [⟨tg, iter, ifs, 0⟩] scope pos) 0 (.ref it) (.ref D) ce) (compPost (model X.prog X.w) X.A X.xe none (EP X pins σ Q) (.ref D) sC.heap.objs.size) { sC with heap := pushCells (sC.heap.push { cls := .type "dict", data := .dict #[] }) scope.names } := by
    refine PpSet.compLoopS_any (fun n s' => ∃ i H', Inv (X.blk sC HC scope ce fp) [] (wipe σ (own.map (·.2))) H' s' ∧ tn i s'.heap ∧ (∀ b ∈ fp, H' b = none) ∧ W i n H') ?_ mW ⟨0, HC, ID, tD, fun b hb => (fC b hb).1.1, wW⟩
    rintro n sE ⟨i, HE, IE, tE, nE, wE⟩
    rcases turn i n HE wE with ⟨stop, fin⟩ | ⟨go, Nx, less, step⟩
    · refine thnF (T.done (X.blk sC HC scope ce fp) rfl rfl rfl hc i [] sE _ HE (fun _ _ => False) IE (still IE nE) tE stop) fun r sF ⟨hr, IF⟩ => ?_
      subst hr
      have IG : Inv X pins σ HE sF := IC.call' (ch := fp) IF.os IF.base IF.hok IF.bare fun b hb => by
        obtain ⟨_, z1, _, z2, z3, z4⟩ := (fC b hb).1
        exact ⟨z2, z1, z3, z4⟩
      have nL : HE sC.heap.objs.size = none := by
        rw [← locC]
        exact IF.free
      obtain ⟨m, hn, _⟩ := IF.loc
      have hn : sF.heap.Ns ce.locals m := hn
      rw [locC] at hn
      refine ⟨m, hn, fun h'' sb => ?_⟩
      obtain ⟨f0, f1, f2, f3, f4, f5⟩ : FpOk X pins HE sC.heap.objs.size := IC.fpOk (Nat.le_refl _) nL
      exact ⟨.ref D, HE, IG.turned (t' := sF.toks) (fun b o hb z => (sb.2 b hb).trans z) f0 f1 f3 f4 f5, rfl, fin⟩
    · refine thnF (T.item (X.blk sC HC scope ce fp) rfl rfl rfl hc i [] sE _ HE (fun _ _ => False) IE (still IE nE) tE go) fun r sF ⟨u, hr, hF⟩ => ?_
      subst hr
      refine thnF hF fun _ sG ⟨x, HG, IG, rG, yG, tG, nG⟩ => ?_
      have pG := IG.pinned (still IG nG) (T.obj _ _ tG)
      refine thnF (gg.run _ sG _ HG x u _ pG rG (step x HG yG)) fun _ sI ⟨σI, HI, II, wI, qI⟩ => ?_
      refine thnF (gt.run _ sI σI HI _ II qI) fun b sJ ⟨HJ, IJ, qJ⟩ => ?_
      have back : ∀ {s' : Shared} {H' : Hp}, Inv (X.blk sC HC scope ce fp) ([] ++ pinsAt fp sG.heap) σI H' s' → Nx H' → ∃ m, m < n ∧ ∃ i H', Inv (X.blk sC HC scope ce fp) [] (wipe σ (own.map (·.2))) H' s' ∧ tn i s'.heap ∧ (∀ b ∈ fp, H' b = none) ∧ W i m H' := fun {s' H'} J' nx => by
        obtain ⟨m', lt, w'⟩ := less H' nx
        have stay : ∀ b ∈ fp, ∀ o, sG.heap.get? b = some o → s'.heap.get? b = some o ∧ H' b = none := fun b hb o z => by
          have p := J'.pin (b, o) (List.mem_append_right _ (List.mem_append_right _ (mem_pinsAt hb z)))
          exact ⟨p.1, p.2.1⟩
        refine ⟨m', lt, i + 1, H', (J'.unpinned (pins := [])).weak (by rw [← wI, wipe_length]) (fun j v z => ?_), T.keep _ _ _ tG fun b hb o z => (stay b hb o z).1, fun b hb => ?_, w'⟩
        · rw [← wI] at z
          exact (wipe_some z).1
        · obtain ⟨o, z, _⟩ := T.obj _ _ tG b hb
          exact (stay b hb o z).2
      cases b with
      | false =>
        simp only [Bool.false_eq_true, if_false] at qJ ⊢
        exact back IJ qJ
      | true =>
        simp only [if_true] at qJ ⊢
        refine thnF (ge.run _ sJ σI HJ _ IJ qJ) fun z sK ⟨yv, HK, IK, rK, c, S, k, ey, hD, hk, nx⟩ => ?_
        subst ey
        obtain ⟨t, rfl⟩ := (show ∃ t, z = Value.int c t from rK)
        exact add_run (X := X.blk sC HC scope ce fp) IK hD hk fun s' J' => back J' nx
  exact PpSet.codeAny_compStart_set loop (T.self X.A 0 _ _ _ tD loop)
end
end
section
open PySem PySem.Spec PyProof.Rows L2
/-! ### set(l) of a list of whole numbers: the set can be walked -/
section
variable {P : Program} {w : World} {A : Around} {E : Value → Shared → Prop} {s : Shared}
/-- what the set's making leaves -/
def MadeS (w : World) (ns : List Int) (s s' : Shared) : Prop := ∃ (g : Heap) (tk c : Nat), s' = { s with heap := g, toks := tk } ∧ SetR w g s.heap.objs.size (fun j => decide (j ∈ ns)) c ∧ c ≤ ns.length ∧ ∀ b o, s.heap.get? b = some o → g.get? b = some o
set_option maxHeartbeats 8000000 in
theorem set_of_list {l : Addr} {items : Array Value} {ns : List Int} {Q : Value → Shared → Prop} (hh : A.handled = none) (hl : s.heap.IsList l items) (hi : IntsAre items.toList ns) (few : ns.length ≤ 100)
    (q : ∀ s', MadeS w ns s s' → Q (.ref s.heap.objs.size) s') : wpAny (model P w) A (call (.type "set") [.ref l]) Q E s := by
  have sz : items.size = ns.length := by rw [← Array.length_toList, hi.length]
  have room : ns.length + 1 < scanBound := Nat.lt_of_le_of_lt (Nat.succ_le_succ few) (by decide)
  obtain ⟨c, tl, hmro⟩ := F.called_set.mro
  have m1 := F.called_set.made
  have m2 := F.called_set.sub
  have m3 := F.called_set.notType
  have m4 := F.called_set.canCreate
  have m5 := F.typeCall_set_1 (.ref l)
  refine wpAny_call (codeAny_of_tree ?_)
  have plain : A.under (.builtin "type.__call__" ⟨[Value.type "set", .ref l], []⟩) = A.in1 := Around.under_plain (weight_type_call_type "set" [.ref l] []) rfl
  show wpAny (model P w) _ (callAny (Value.type "set") _) _ _ s
  refine wpAny_pure (And.intro (Code.quiet_builtin _ (by decide +kernel)) (codeAny_builtin F.entry_type_call ?_))
  show wpAny _ (A.under (.builtin "type.__call__" ⟨[Value.type "set", .ref l], []⟩)) _ _ _ _
  rw [plain]
  repeat (any_goals (first | assumption | wp_step))
  refine codeAny_mono (code_set_led1 (.ref l) (E := E) (Q₁ := fun z s' => z = .ref s.heap.objs.size ∧ s' = { s with heap := s.heap.push (emptySet w) }) ⟨rfl, rfl⟩) fun r sA hr => ?_
  cases r with
  | error e => exact hr
  | ok fl =>
    cases fl with
    | next => exact hr.elim
    | brk => exact hr.elim
    | cont => exact hr.elim
    | ret z =>
      obtain ⟨rfl, rfl⟩ := hr
      have isS : (s.heap.push (emptySet w)).get? s.heap.objs.size = some (emptySet w) := Heap.get?_push_size _ rfl
      have tyS : Shared.TypeIs { s with heap := s.heap.push (emptySet w) } (.ref s.heap.objs.size) "set" := ⟨_, isS, rfl⟩
      have i1 := F.called_set.init.lookup
      have i2 := F.called_set.init.bind (Value.ref s.heap.objs.size)
      repeat (any_goals (first | assumption | wp_step))
      refine codeAny_mono (codeAny_call_builtin (R := wants (fun r s' => r = .none ∧ MadeS w ns s s') E) F.called_set.init.plain F.entry_set_init (check_set_init_1 tyS ?_)) fun r2 sB hr2 => ?_
      · obtain ⟨⟨ocls, odict, odata, oslots⟩, hol, hcl, nl, hdl⟩ := hl
        dsimp only at hcl hdl
        subst hcl hdl
        have lt : l < s.heap.objs.size := Heap.lt_size hol
        have hol2 : (s.heap.push (emptySet w)).get? l = some { cls := .type "list", dict := odict, data := .seq items nl, slots := oslots } := Heap.get?_push_of_some _ hol
        have l2 : (s.heap.push (emptySet w)).IsList l items := ⟨_, hol2, rfl, nl, rfl⟩
        have n1 := F.sub_list_set
        have n2 := F.sub_list_frozenset
        have n3 : (Value.type "list" == Value.type "dict") = false := by decide
        unfold Builtin.«set.__init__» noKeywords Builtin.Frozenset.updateFrom
        generalize hit : pyIter = IT
        wp_walk
        subst hit
        refine wpAny_pyIter_list l2 (wpAny_bind (wpAny_runValue ?_))
        have szS : (s.heap.push (emptySet w)).objs.size = s.heap.objs.size + 1 := Heap.size_push ..
        have nlI : l ≠ (s.heap.push (emptySet w)).objs.size := by rw [szS]; exact Nat.ne_of_lt (Nat.lt_succ_of_lt lt)
        have nS : s.heap.objs.size ∉ [(s.heap.push (emptySet w)).objs.size, l] := fun z => by
          rw [szS] at z
          rcases List.mem_cons.mp z with e | e
          · exact absurd e (Nat.ne_of_lt (Nat.lt_succ_self _))
          · exact absurd (List.mem_singleton.mp e) (Nat.ne_of_gt lt)
        have vals : ∀ (i : Nat) (v : Value), items[i]? = some v → ∃ k t, ns[i]? = some k ∧ v = .int k t := fun i v hv => by
          have hi' : i < ns.length := by rw [← sz]; exact (Array.getElem?_eq_some_iff.mp hv).1
          obtain ⟨t, e⟩ := hi.get i ns[i] (List.getElem?_eq_getElem hi')
          rw [Array.getElem?_toList, hv] at e
          exact ⟨ns[i], t, List.getElem?_eq_getElem hi', Option.some.inj e⟩
        have hh3 : A.in1.in1.in1.handled = none := hh
        refine set_update_ints ((Walks.list hh3 _ l nlI items).toS) s.heap.objs.size nS ns sz room vals (items.size - 0) 0 _ (by omega) (Nat.zero_le _) ⟨⟨_, Heap.get?_push_size _ rfl, rfl, rfl⟩, l2.push _⟩ ?start ?stop
        case start => exact ⟨0, Nat.le_refl 0, setR_new_at (Heap.get?_push_of_some _ isS)⟩
        case stop =>
          intro sZ c' mv hc' hS'
          obtain ⟨hZ, gZ, dZ, tZ, oZ⟩ := sZ
          obtain rfl : gZ = s.gens := mv.gens
          obtain rfl : dZ = s.drawn := mv.drawn
          obtain rfl : oZ = s.os := mv.os
          show wpAny _ _ _ _ _ _
          refine wpAny_pure ?_
          show wpAny _ _ (ret Value.none) _ _ _
          refine wpAny_pure ⟨rfl, hZ, tZ, c', rfl, hS', by rw [← sz]; exact hc', fun b o e => ?_⟩
          have lb : b < s.heap.objs.size := Heap.lt_size e
          refine mv.heap b o (fun z => ?_) (Heap.get?_push_of_some _ (Heap.get?_push_of_some _ e))
          rcases List.mem_cons.mp z with e2 | e2
          · exact absurd e2 (Nat.ne_of_lt lb)
          · rw [List.mem_singleton.mp e2, szS] at lb
            exact absurd lb (Nat.not_lt.mpr (Nat.le_succ _))
      · cases r2 with
        | error e => exact hr2
        | ok fl2 =>
          cases fl2 with
          | next => exact hr2.elim
          | brk => exact hr2.elim
          | cont => exact hr2.elim
          | ret r =>
            obtain ⟨rfl, made⟩ := hr2
            repeat (any_goals (first | assumption | wp_step))
            exact q _ made
end
def rSetI (K : PySem.W.Frag) (w : World) : List V → Hp → VK → Prop := fun xs H Q => ∃ (l : Addr) (ns : List Int), xs = [V.ref l] ∧ SqL K H l (ns.map V.int) ∧ ns.length ≤ 100 ∧ ∀ p c, H p = none → c ≤ ns.length → Q (.ref p) (upd H p (SetO w p (fun j => decide (j ∈ ns)) c))
theorem cr_setI {X : Cx} (hc : X.calm = true) : CallR X (.type "set") (rSetI X.K X.w) := by
  intro pins s σ H xs us Q I r h
  obtain ⟨l, ns, rfl, hl, few, q⟩ := h
  rw [Vals.ref1 r]
  obtain ⟨its, rv, pl, hz⟩ := I.list hl
  refine set_of_list (I.ok.hd hc) pl.isList (by simpa using rv.ints) few fun s' made => ?_
  obtain ⟨g, tk, c, rfl, hS, hcn, kp⟩ := made
  exact ⟨.ref s.heap.objs.size, _, I.laid (t' := tk) kp (Nat.le_refl _) (setO_new hS), rfl, q _ c (I.hok.fresh (Nat.le_refl _)) hcn⟩
end
section
open PySem
/-! ### rows of units by year -/
section
variable {U : List Str} {b e : Str → Int}
def rowP (b e : Str → Int) (y : Int) (u : Str) : Bool := decide (b u ≤ y) && decide (y ≤ e u)
def rowOfY (U : List Str) (b e : Str → Int) (y : Int) : List Str := U.filter (rowP b e y)
theorem mem_row {y : Int} {u : Str} : u ∈ rowOfY U b e y ↔ u ∈ U ∧ b u ≤ y ∧ y ≤ e u := by
  unfold rowOfY rowP
  rw [List.mem_filter, Bool.and_eq_true, decide_eq_true_eq, decide_eq_true_eq]
/-- a row within a row is a row of it -/
theorem row_sub {y z : Int} (h : ∀ u ∈ rowOfY U b e y, u ∈ rowOfY U b e z) : (rowOfY U b e y).Sublist (rowOfY U b e z) := by
  have q : rowOfY U b e y = (rowOfY U b e z).filter (rowP b e y) := by
    unfold rowOfY
    rw [List.filter_filter]
    refine List.filter_congr fun u hu => ?_
    cases p : rowP b e y u with
    | false => rfl
    | true =>
      have m : u ∈ rowOfY U b e y := List.mem_filter.mpr ⟨hu, p⟩
      have m2 := (List.mem_filter.mp (h u m)).2
      rw [m2]
      rfl
  rw [q]
  exact List.filter_sublist
theorem row_eq {y z : Int} (h : ∀ u ∈ rowOfY U b e y, u ∈ rowOfY U b e z) (g : ∀ u ∈ rowOfY U b e z, u ∈ rowOfY U b e y) : rowOfY U b e y = rowOfY U b e z :=
  (row_sub h).eq_of_length (Nat.le_antisymm (row_sub h).length_le (row_sub g).length_le)
/-- a row that no other row holds -/
structure Max (U : List Str) (b e : Str → Int) (M : List Str) : Prop where
  row : ∃ y, M = rowOfY U b e y
  ne : M ≠ []
  top : ∀ y, (∀ u ∈ M, u ∈ rowOfY U b e y) → rowOfY U b e y = M
theorem max_in {n : Nat} : ∀ {y : Int}, U.length - (rowOfY U b e y).length ≤ n → rowOfY U b e y ≠ [] → ∃ M, Max U b e M ∧ ∀ u ∈ rowOfY U b e y, u ∈ M := by
  induction n with
  | zero =>
    intro y hn hne
    refine ⟨_, ⟨⟨y, rfl⟩, hne, fun z hz => ?_⟩, fun u hu => hu⟩
    have s := row_sub hz
    have l1 := s.length_le
    have l2 : (rowOfY U b e z).length ≤ U.length := List.length_filter_le _ _
    exact (s.eq_of_length (by omega)).symm
  | succ n ih =>
    intro y hn hne
    by_cases h : ∀ z, (∀ u ∈ rowOfY U b e y, u ∈ rowOfY U b e z) → rowOfY U b e z = rowOfY U b e y
    · exact ⟨_, ⟨⟨y, rfl⟩, hne, h⟩, fun u hu => hu⟩
    · obtain ⟨z, hz⟩ := Classical.not_forall.mp h
      obtain ⟨h1, h2⟩ := Classical.not_imp.mp hz
      have s := row_sub h1
      have l2 : (rowOfY U b e z).length ≤ U.length := List.length_filter_le _ _
      have l3 : (rowOfY U b e y).length ≠ (rowOfY U b e z).length := fun q => h2 (s.eq_of_length q).symm
      have l4 := s.length_le
      obtain ⟨M, hM, hs⟩ := ih (y := z) (by omega) (fun q => by rw [q] at s; exact hne (List.sublist_nil.mp s))
      exact ⟨M, hM, fun u hu => hs u (h1 u hu)⟩
/-- the latest beginning, the earliest end -/
theorem max_of (f : Str → Int) : ∀ {l : List Str}, l ≠ [] → ∃ u ∈ l, ∀ v ∈ l, f v ≤ f u
  | [], h => absurd rfl h
  | [u], _ => ⟨u, .head _, fun v hv => by rw [List.mem_singleton.mp hv]; exact Int.le_refl _⟩
  | u :: v :: r, _ => by
    obtain ⟨w, hw, h⟩ := max_of f (l := v :: r) (by simp)
    by_cases c : f w ≤ f u
    · refine ⟨u, .head _, fun x hx => ?_⟩
      rcases List.mem_cons.mp hx with rfl | hx
      · exact Int.le_refl _
      · exact Int.le_trans (h x hx) c
    · refine ⟨w, .tail _ hw, fun x hx => ?_⟩
      rcases List.mem_cons.mp hx with rfl | hx
      · omega
      · exact h x hx
theorem to_begin {y : Int} (h : rowOfY U b e y ≠ []) : ∃ u ∈ U, (∀ v ∈ rowOfY U b e y, v ∈ rowOfY U b e (b u)) := by
  obtain ⟨u, hu, hm⟩ := max_of b h
  obtain ⟨h1, h2, h3⟩ := mem_row.mp hu
  refine ⟨u, h1, fun v hv => ?_⟩
  obtain ⟨g1, g2, g3⟩ := mem_row.mp hv
  exact mem_row.mpr ⟨g1, hm v hv, by omega⟩
theorem to_end {y : Int} (h : rowOfY U b e y ≠ []) : ∃ u ∈ U, (∀ v ∈ rowOfY U b e y, v ∈ rowOfY U b e (e u)) := by
  obtain ⟨u, hu, hm⟩ := max_of (fun v => -(e v)) h
  obtain ⟨h1, h2, h3⟩ := mem_row.mp hu
  refine ⟨u, h1, fun v hv => ?_⟩
  obtain ⟨g1, g2, g3⟩ := mem_row.mp hv
  have := hm v hv
  exact mem_row.mpr ⟨g1, by omega, by omega⟩
/-- few is a part of many; two is wider than one -/
def partB (few many : List Str) : Bool := !decide (few = many) && few.all fun u => decide (u ∈ many)
def widerB (one two : List Str) : Bool := decide (one.length < two.length) && one.all fun u => decide (u ∈ two)
theorem partB_iff {few many : List Str} : partB few many = true ↔ few ≠ many ∧ ∀ u ∈ few, u ∈ many := by
  unfold partB
  rw [Bool.and_eq_true, Bool.not_eq_true', decide_eq_false_iff_not, List.all_eq_true]
  simp
theorem widerB_iff {one two : List Str} : widerB one two = true ↔ one.length < two.length ∧ ∀ u ∈ one, u ∈ two := by
  unfold widerB
  rw [Bool.and_eq_true, decide_eq_true_eq, List.all_eq_true]
  simp
def keepB (f : List Str → List Str → Bool) (rows : List (List Str)) (x : List Str) : Bool := !rows.any (f x)
theorem keepB_iff {f : List Str → List Str → Bool} {rows : List (List Str)} {x : List Str} : keepB f rows x = true ↔ ∀ z ∈ rows, f x z = false := by
  unfold keepB
  rw [Bool.not_eq_true', List.any_eq_false]
  simp
/-- the years at which units begin (or end), each once, ascending -/
structure Yrs (U : List Str) (f : Str → Int) (Y : List Int) : Prop where
  asc : Y.Pairwise (· < ·)
  mem : ∀ y : Int, y ∈ Y ↔ ∃ u ∈ U, f u = y
  ln : Y.length ≤ U.length
abbrev keptB (U : List Str) (b e : Str → Int) (Y : List Int) : List (List Str) := (Y.map (rowOfY U b e)).filter (keepB partB (Y.map (rowOfY U b e)))
abbrev keptE (U : List Str) (b e : Str → Int) (Y : List Int) : List (List Str) := (Y.map (rowOfY U b e)).filter (keepB widerB (Y.map (rowOfY U b e)))
theorem mem_keptB (hbe : ∀ u ∈ U, b u ≤ e u) {Y : List Int} (hY : Yrs U b Y) {M : List Str} : M ∈ keptB U b e Y ↔ Max U b e M := by
  unfold keptB
  rw [List.mem_filter, keepB_iff]
  constructor
  · rintro ⟨h1, h2⟩
    obtain ⟨y, hy, rfl⟩ := List.mem_map.mp h1
    obtain ⟨u, hu, rfl⟩ := (hY.mem y).mp hy
    have hne : rowOfY U b e (b u) ≠ [] := List.ne_nil_of_mem (mem_row.mpr ⟨hu, Int.le_refl _, hbe u hu⟩)
    refine ⟨⟨_, rfl⟩, hne, fun z hz => ?_⟩
    have nz : rowOfY U b e z ≠ [] := fun q => by
      obtain ⟨v, hv⟩ := List.exists_mem_of_ne_nil _ hne
      have := hz v hv
      rw [q] at this
      cases this
    obtain ⟨v, hv, hs⟩ := to_begin nz
    have h3 := h2 _ (List.mem_map.mpr ⟨b v, (hY.mem _).mpr ⟨v, hv, rfl⟩, rfl⟩)
    have h4 : rowOfY U b e (b u) = rowOfY U b e (b v) := by
      refine Classical.byContradiction fun q => ?_
      rw [partB_iff.mpr ⟨q, fun w hw => hs w (hz w hw)⟩] at h3
      cases h3
    exact row_eq (fun w hw => by rw [h4]; exact hs w hw) hz
  · rintro ⟨⟨y, rfl⟩, hne, top⟩
    obtain ⟨u, hu, hs⟩ := to_begin hne
    have e1 := top _ hs
    refine ⟨List.mem_map.mpr ⟨b u, (hY.mem _).mpr ⟨u, hu, rfl⟩, e1⟩, fun z hz => ?_⟩
    obtain ⟨y', _, rfl⟩ := List.mem_map.mp hz
    refine Bool.eq_false_iff.mpr fun q => ?_
    obtain ⟨q1, q2⟩ := partB_iff.mp q
    exact q1 (top _ q2).symm
theorem mem_keptE (hbe : ∀ u ∈ U, b u ≤ e u) {Y : List Int} (hY : Yrs U e Y) {M : List Str} : M ∈ keptE U b e Y ↔ Max U b e M := by
  unfold keptE
  rw [List.mem_filter, keepB_iff]
  constructor
  · rintro ⟨h1, h2⟩
    obtain ⟨y, hy, rfl⟩ := List.mem_map.mp h1
    obtain ⟨u, hu, rfl⟩ := (hY.mem y).mp hy
    have hne : rowOfY U b e (e u) ≠ [] := List.ne_nil_of_mem (mem_row.mpr ⟨hu, hbe u hu, Int.le_refl _⟩)
    refine ⟨⟨_, rfl⟩, hne, fun z hz => ?_⟩
    have nz : rowOfY U b e z ≠ [] := fun q => by
      obtain ⟨v, hv⟩ := List.exists_mem_of_ne_nil _ hne
      have := hz v hv
      rw [q] at this
      cases this
    obtain ⟨v, hv, hs⟩ := to_end nz
    have h3 := h2 _ (List.mem_map.mpr ⟨e v, (hY.mem _).mpr ⟨v, hv, rfl⟩, rfl⟩)
    have sub := row_sub (fun w hw => hs w (hz w hw))
    have h4 : rowOfY U b e (e u) = rowOfY U b e (e v) := by
      refine sub.eq_of_length (Classical.byContradiction fun q => ?_)
      have := sub.length_le
      rw [widerB_iff.mpr ⟨by omega, fun w hw => hs w (hz w hw)⟩] at h3
      cases h3
    exact row_eq (fun w hw => by rw [h4]; exact hs w hw) hz
  · rintro ⟨⟨y, rfl⟩, hne, top⟩
    obtain ⟨u, hu, hs⟩ := to_end hne
    have e1 := top _ hs
    refine ⟨List.mem_map.mpr ⟨e u, (hY.mem _).mpr ⟨u, hu, rfl⟩, e1⟩, fun z hz => ?_⟩
    obtain ⟨y', _, rfl⟩ := List.mem_map.mp hz
    refine Bool.eq_false_iff.mpr fun q => ?_
    obtain ⟨q1, q2⟩ := widerB_iff.mp q
    rw [top _ q2] at q1
    exact absurd q1 (Nat.lt_irrefl _)
/-- M stands ahead of N -/
def Ahead (b : Str → Int) (M N : List Str) : Prop := ∃ z : Int, (∀ u ∈ M, b u ≤ z) ∧ ∃ u ∈ N, z < b u
theorem ahead_no {M N : List Str} (h : Ahead b M N) (g : Ahead b N M) : False := by
  obtain ⟨z, h1, u, hu, h2⟩ := h
  obtain ⟨y, g1, v, hv, g2⟩ := g
  have := h1 v hv
  have := g1 u hu
  omega
theorem ahead_eq : ∀ {l m : List (List Str)}, l.Pairwise (Ahead b) → m.Pairwise (Ahead b) → (∀ M, M ∈ l ↔ M ∈ m) → l = m
  | [], [], _, _, _ => rfl
  | [], N :: m, _, _, h => nomatch (h N).mpr (.head _)
  | M :: l, [], _, _, h => nomatch (h M).mp (.head _)
  | M :: l, N :: m, hl, hm, h => by
    obtain ⟨l1, l2⟩ := List.pairwise_cons.mp hl
    obtain ⟨m1, m2⟩ := List.pairwise_cons.mp hm
    have e1 : M = N := by
      rcases List.mem_cons.mp ((h M).mp (.head _)) with q | q
      · exact q
      · rcases List.mem_cons.mp ((h N).mpr (.head _)) with q2 | q2
        · exact q2.symm
        · exact (ahead_no (l1 N q2) (m1 M q)).elim
    subst e1
    rw [ahead_eq l2 m2 fun X => ⟨fun q => ?_, fun q => ?_⟩]
    · rcases List.mem_cons.mp ((h X).mp (.tail _ q)) with q2 | q2
      · rw [q2] at q
        exact (ahead_no (l1 M q) (l1 M q)).elim
      · exact q2
    · rcases List.mem_cons.mp ((h X).mpr (.tail _ q)) with q2 | q2
      · rw [q2] at q
        exact (ahead_no (m1 M q) (m1 M q)).elim
      · exact q2
theorem kept_same (hbe : ∀ u ∈ U, b u ≤ e u) {Y Z : List Int} (hY : Yrs U b Y) (hZ : Yrs U e Z) : keptB U b e Y = keptE U b e Z := by
  refine ahead_eq (b := b) ?_ ?_ fun M => (mem_keptB hbe hY).trans (mem_keptE hbe hZ).symm
  · refine List.Pairwise.filter _ (List.pairwise_map.mpr (hY.asc.imp_of_mem fun {y z} _ hz lt => ?_))
    obtain ⟨u, hu, rfl⟩ := (hY.mem z).mp hz
    exact ⟨y, fun v hv => (mem_row.mp hv).2.1, u, mem_row.mpr ⟨hu, Int.le_refl _, hbe u hu⟩, lt⟩
  · have hp : (keptE U b e Z).Pairwise (fun M N => ∃ y ∈ Z, ∃ z, y < z ∧ M = rowOfY U b e y ∧ N = rowOfY U b e z) :=
      List.Pairwise.filter _ (List.pairwise_map.mpr (hZ.asc.imp_of_mem fun {y z} hy _ lt => ⟨y, hy, z, lt, rfl, rfl⟩))
    refine hp.imp_of_mem fun {M N} _ hN h => ?_
    obtain ⟨y, hy, z, lt, rfl, rfl⟩ := h
    have top := (mem_keptE hbe hZ).mp hN
    refine ⟨y, fun v hv => (mem_row.mp hv).2.1, Classical.byContradiction fun q => ?_⟩
    have all : ∀ u ∈ rowOfY U b e z, u ∈ rowOfY U b e y := fun u hu => by
      obtain ⟨h1, h2, h3⟩ := mem_row.mp hu
      refine mem_row.mpr ⟨h1, Classical.byContradiction fun g => q ⟨u, hu, by omega⟩, by omega⟩
    have same := top.top y all
    obtain ⟨u, hu, rfl⟩ := (hZ.mem y).mp hy
    have m : u ∈ rowOfY U b e (e u) := mem_row.mpr ⟨hu, hbe u hu, Int.le_refl _⟩
    rw [same] at m
    have := (mem_row.mp m).2.2
    omega
/-! ### what stands side by side -/
/-- the rows as years -/
theorem kept_years {Y : List Int} (hY : Yrs U b Y) : ∃ Y' : List Int, keptB U b e Y = Y'.map (rowOfY U b e) ∧ Y'.Pairwise (· < ·) ∧ Y'.length ≤ U.length := by
  refine ⟨Y.filter fun y => keepB partB (Y.map (rowOfY U b e)) (rowOfY U b e y), ?_, hY.asc.filter _, Nat.le_trans (List.length_filter_le _ _) hY.ln⟩
  unfold keptB
  rw [List.filter_map]
  rfl
theorem kept_has (hbe : ∀ u ∈ U, b u ≤ e u) {Y : List Int} (hY : Yrs U b Y) {y : Int} {u v : Str} (hu : u ∈ rowOfY U b e y) (hv : v ∈ rowOfY U b e y) : ∃ M ∈ keptB U b e Y, u ∈ M ∧ v ∈ M := by
  obtain ⟨M, hM, hs⟩ := max_in (n := U.length) (Nat.sub_le _ _) (List.ne_nil_of_mem hu)
  exact ⟨M, (mem_keptB hbe hY).mpr hM, hs u hu, hs v hv⟩
theorem together {y : Int} {u v : Str} (hu : u ∈ rowOfY U b e y) (hv : v ∈ rowOfY U b e y) : b u ≤ e v ∧ b v ≤ e u := by
  obtain ⟨_, h1, h2⟩ := mem_row.mp hu
  obtain ⟨_, h3, h4⟩ := mem_row.mp hv
  omega
theorem meet_row (hbe : ∀ u ∈ U, b u ≤ e u) {u v : Str} (hu : u ∈ U) (hv : v ∈ U) (h : b u ≤ e v ∧ b v ≤ e u) : ∃ y, u ∈ rowOfY U b e y ∧ v ∈ rowOfY U b e y := by
  have h1 := hbe u hu
  have h2 := hbe v hv
  by_cases c : b u ≤ b v
  · exact ⟨b v, mem_row.mpr ⟨hu, c, h.2⟩, mem_row.mpr ⟨hv, Int.le_refl _, h2⟩⟩
  · exact ⟨b u, mem_row.mpr ⟨hu, Int.le_refl _, h1⟩, mem_row.mpr ⟨hv, by omega, h.1⟩⟩
end
end
section
open PySem PySem.Spec PyProof.Rows L2
def topS (i : Nat) : Stmt := PySem.Challenge.pw_digstead_k64_phases_of_a_past.main.body.getD i (.Pass ⟨0, 0, 0, 0⟩)
/-! ### _law_pool -/
abbrev s_pool : Stmt := topS 5
abbrev N_pool : List Str := ["script", "salt", "great", "mixed", "i", "cell"]
theorem sc_pool : FnScope N_pool ["script", "salt"] (defScope s_pool) := ⟨rfl, rfl, rfl, by decide +kernel, rfl, by decide +kernel, by decide +kernel⟩
def spPool (K : PySem.W.Frag) : Sp := fun vs H Q _ => ∃ (a : Addr) (ns : List Int) (z : Int), vs = [.ref a, .int z] ∧ SqL K H a (ns.map V.int) ∧ ns.length ≤ 63 ∧ 0 ≤ z ∧ z < 1000000 ∧
  ∀ (H' : Hp) (p g : Addr), Same H H' → H p = none → H g = none → PoolAt H' p g → Q (.ref p) H'
section
variable {P : Program} {w : World} {K : PySem.W.Frag} {mg : Str → Option Value} {base : Heap}
theorem ok_pool {k : Nat} (D : DefAt K mg "_law_pool" s_pool ["script", "salt"]) (T : Txt mg) : C8.Cal P w K mg base (k + 1) "_law_pool" (spPool K) [] := by
  obtain ⟨f, fd, F, hg, b⟩ := D.ex
  refine cal_of F hg b sc_pool (fun vs H Q E h => ?_) (fun cdv A outer s H vs Q E hr h => ?_)
  · obtain ⟨a, ns, z, rfl, _⟩ := h
    rfl
  · obtain ⟨a, ns, z, rfl, hS, hlen, hz0, hz1, q⟩ := h
    have hu := hu_of hr
    refine ⟨_, (pss_cons (ps_set (i := 2) sc_pool.nd rfl (.inl rfl) (pe_lst pa_nil))
(pss_cons (ps_set (i := 3) sc_pool.nd rfl (.inl rfl) (pe_op op_add pe_int (pv 1)))
(pss_cons (ps_for PassesOwn.never rfl (pi_range1 rfl T.range (pa_cons (pe_callB (call_min2D rfl) (by rfl) T.min (by decide +kernel) (pa_cons (pe_callB (show CallR _ (.builtin "len") (rLenQ K) from call_lenD') (by rfl) T.len PySem.boot_len (pa_cons (pv 0) pa_nil)) (pa_cons pe_int pa_nil))) pa_nil)) (pg_name (i := 4) sc_pool.nd rfl (.inl rfl))
    (pss_cons (ps_set (i := 5) sc_pool.nd rfl (.inl rfl) (pe_callB call_absD (by rfl) T.abs (by decide +kernel) (pa_cons (pe_callTy call_intD (by rfl) T.int (by decide +kernel) (pa_cons (pe_ix (show IxR _ (rIxL K) from ix_list) (pv 0) (pv 4) (fun _ _ => rfl)) pa_nil)) pa_nil)))
    (pss_cons (ps_if (pt_cmpR op_ge (pv 5) (pe_op op_pow pe_int pe_int) (nomark _))
        (pss_one (ps_set (i := 2) sc_pool.nd rfl (.inl rfl) (pe_op op_cat (pe_lst (pa_cons (pv 5) pa_nil)) (pv 2))))
      pss_nil)
    (pss_one (ps_set (i := 3) sc_pool.nd rfl (.inl rfl) (pe_op op_mod (pe_callTy call_intD (by rfl) T.int (by decide +kernel) (pa_cons (pe_op op_add (pe_op op_add (pe_op op_add (pe_op op_add (pe_op op_mul (pv 3) pe_int) (pe_op op_mul (pe_op op_mod (pe_callTy call_intD (by rfl) T.int (by decide +kernel) (pa_cons (pv 5) pa_nil)) pe_int) pe_int)) (pe_op op_mod (pe_callTy call_intD (by rfl) T.int (by decide +kernel) (pa_cons (pe_op op_fdiv (pv 5) pe_int) pa_nil)) pe_int)) (pv 4)) pe_int) pa_nil)) pe_int))))))
(pss_one (ps_ret (pe_lst (pa_cons (pv 2) (pa_cons (pv 3) (pa_cons pe_int pa_nil))))))))), ?_⟩
    walk_at "go"
    refine ⟨Nat.zero_le _, fun g0 n0 => ?_⟩
    have s0 : Same H (upd H g0 (.lst [])) := same_upd n0
    walk_at "go"
    -- for i in range(min(len(script), 63))
    refine r_lenL (s0.seq hS) ?_
    walk_at "go"
    have el : (if (63 : Int) < ((ns.map V.int).length : Int) then (63 : Int) else ((ns.map V.int).length : Int)) = (ns.length : Int) := by
      rw [List.length_map, if_neg (by omega)]
    rw [el]
    refine ⟨_, rfl, by omega, by omega, ?_⟩
    rw [Int.toNat_natCast]
    refine for_range (lo := 0) (n := ns.length) (fun i σ H' => ∃ (g : Addr) (gs : List Int) (m : Int) (x4 x5 : Option V), σ = [some (.ref a), some (.int z), some (.ref g), some (.int m), x4, x5] ∧ Same H H' ∧ H g = none ∧ H' g = some (.lst (gs.map V.int)) ∧ gs.length ≤ i ∧ 0 ≤ m ∧ m < 2147483647)
      ⟨g0, [], _, none, none, rfl, s0, n0, upd_same, Nat.le_refl _, by omega, by omega⟩ (fun i σ H' hi hW => ?_) (fun σ H' hW => ?_)
    · obtain ⟨g, gs, m, x4, x5, rfl, sm, ng, eg, lg, m0, m1⟩ := hW
      have hA : SqL K H' a (ns.map V.int) := sm.seq hS
      walk_at "go"
      have ha : (ns.map V.int)[i]? = some (.int ns[i]) := by
        rw [List.getElem?_map, List.getElem?_eq_getElem hi]
        rfl
      refine r_ixL hA (at_of (by omega) ha) ?_
      walk_at "go"
      -- if cell >= 10 ** 18
      refine r_I ⟨by decide, by decide, by decide⟩ ?_
      walk_at "go"
      refine ite2 (fun _ => ?_) (fun _ => ?_)
      · walk_at "go"
        refine ⟨sz_le (by simp), fun c nc => ?_⟩
        walk_at "go"
        have ncg : g ≠ c := ne_of_none eg nc
        refine r_cat upd_same (by rw [upd_ne ncg]; exact eg) (by
          rw [List.length_map]
          show 1 + gs.length ≤ sizeLine
          exact sz_le (by omega)) fun o no => ?_
        walk_at "go"
        refine ⟨o, (if ns[i] < 0 then -ns[i] else ns[i]) :: gs, _, _, _, rfl, (sm.trans (same_upd nc)).trans (same_upd no), (sm.trans (same_upd nc)).free no, upd_same, ?_, by omega, by omega⟩
        rw [List.length_cons]
        omega
      · walk_at "go"
        exact ⟨g, gs, _, _, _, rfl, sm, ng, eg, by omega, by omega, by omega⟩
    · obtain ⟨g, gs, m, x4, x5, rfl, sm, ng, eg, lg, m0, m1⟩ := hW
      -- return [great, mixed, 0]
      walk_at "go"
      refine ⟨sz_le (by simp), fun p np => ?_⟩
      refine q _ p g (sm.trans (same_upd np)) (sm.free np) ng ⟨(ne_of_none eg np).symm, gs, m, 0, upd_same, ?_, by omega, m0, m1⟩
      rw [upd_ne (ne_of_none eg np)]
      exact eg
end
end
section
open PySem PySem.Spec PyProof.Rows L2
/-! ### names -/
/-- a name: short, of signs that are -/
structure NOk (x : Str) : Prop where
  len : x.length ≤ 2000
  sg : ∀ c ∈ x.cps.toList, c < 0x110000
theorem NOk.ok {x : Str} (h : NOk x) : PyData.strOk x = true := by
  unfold PyData.strOk
  rw [Array.all_eq_true_iff_forall_mem]
  exact fun c hc => decide_eq_true (h.sg c (Array.mem_def.mp hc))
theorem sg_cat {a b : Str} (ha : ∀ c ∈ a.cps.toList, c < 0x110000) (hb : ∀ c ∈ b.cps.toList, c < 0x110000) : ∀ c ∈ (a ++ b).cps.toList, c < 0x110000 := fun c hc => by
  have e : (a ++ b).cps.toList = a.cps.toList ++ b.cps.toList := by
    show (a.cps ++ b.cps).toList = _
    rw [Array.toList_append]
  rw [e] at hc
  exact (List.mem_append.mp hc).elim (ha c) (hb c)
theorem sg_one {z : Str} (hz : ∀ c ∈ z.cps.toList, c < 0x110000) {c : Nat} (h : c ∈ z.cps.toList) : ∀ d ∈ (⟨#[c]⟩ : Str).cps.toList, d < 0x110000 := fun d hd => by
  have e : d = c := by simpa using hd
  rw [e]
  exact hz c h
theorem sg_cut {z : Str} (hz : ∀ c ∈ z.cps.toList, c < 0x110000) (lo hi : Option Int) : ∀ c ∈ (cutS z lo hi).cps.toList, c < 0x110000 := fun c hc => by
  unfold cutS at hc
  rw [List.toList_toArray] at hc
  exact hz c (List.mem_of_mem_drop (List.mem_of_mem_take hc))
theorem sg_of (s : String) : ∀ c ∈ (Str.ofString s).cps.toList, c < 0x110000 := fun c hc => by
  rw [Str.ofString_eq_toList, List.toList_toArray] at hc
  obtain ⟨d, _, rfl⟩ := List.mem_map.mp hc
  have h := d.valid
  show d.val.toNat < _
  rcases h with h | h
  · exact Nat.lt_trans h (by decide)
  · exact h.2
/-! ### rows of names as data -/
def txD (ks : List Str) : PyData := .tuple (ks.map .str)
def rwD (T : List (List Str)) : PyData := .tuple (T.map txD)
theorem eqv_strs : ∀ k l : List Str, PyData.eqvAll (k.map .str) (l.map .str) = decide (k = l)
  | [], [] => by rw [decide_eq_true rfl]; rfl
  | [], _ :: _ => by rw [decide_eq_false (fun z => nomatch z)]; rfl
  | _ :: _, [] => by rw [decide_eq_false (fun z => nomatch z)]; rfl
  | x :: k, y :: l => by
    rw [List.map_cons, List.map_cons, PyData.eqvAll, eqv_strs k l, PyData.eqv, Bool.eq_iff_iff]
    simp
theorem eqv_tx (k l : List Str) : PyData.eqv (txD k) (txD l) = decide (k = l) := by
  unfold txD
  rw [PyData.eqv, eqv_strs]
theorem lay_strs : ∀ {k : List Str}, (∀ x ∈ k, NOk x) → PyData.canLayAll0 (k.map .str) = true
  | [], _ => rfl
  | x :: k, h => by
    rw [List.map_cons, PyData.canLayAll0, PyData.canLay0, (h x (.head _)).ok, lay_strs fun y hy => h y (.tail _ hy)]
    rfl
theorem dep_strs : ∀ k : List Str, PyData.depthAll (k.map .str) = 0
  | [] => rfl
  | x :: k => by
    rw [List.map_cons, PyData.depthAll, dep_strs k, PyData.depth]
    rfl
theorem lay_tx {k : List Str} (h : ∀ x ∈ k, NOk x) : (txD k).canLay0 = true := by
  unfold txD
  rw [PyData.canLay0]
  exact lay_strs h
theorem dep_tx (k : List Str) : (txD k).depth = 1 := by
  unfold txD
  rw [PyData.depth, dep_strs]
theorem shaped_tx {k : List Str} (h : ∀ x ∈ k, NOk x) : SeqAt.shaped (txD k) = true := by
  unfold SeqAt.shaped
  rw [lay_tx h, dep_tx]
  rfl
theorem lay_rows : ∀ {T : List (List Str)}, (∀ k ∈ T, ∀ x ∈ k, NOk x) → PyData.canLayAll0 (T.map txD) = true
  | [], _ => rfl
  | k :: T, h => by
    rw [List.map_cons, PyData.canLayAll0, lay_tx (h k (.head _)), lay_rows fun y hy => h y (.tail _ hy)]
    rfl
theorem dep_rows : ∀ T : List (List Str), PyData.depthAll (T.map txD) ≤ 1
  | [] => Nat.zero_le _
  | k :: T => by
    rw [List.map_cons, PyData.depthAll, dep_tx]
    exact Nat.max_le.mpr ⟨Nat.le_refl _, dep_rows T⟩
theorem lay_rw {T : List (List Str)} (h : ∀ k ∈ T, ∀ x ∈ k, NOk x) : (rwD T).canLay0 = true := by
  unfold rwD
  rw [PyData.canLay0]
  exact lay_rows h
theorem dep_rw (T : List (List Str)) : (rwD T).depth ≤ 2 := by
  unfold rwD
  rw [PyData.depth]
  exact Nat.succ_le_succ (dep_rows T)
theorem shaped_rw {T : List (List Str)} (h : ∀ k ∈ T, ∀ x ∈ k, NOk x) : SeqAt.shaped (rwD T) = true := by
  unfold SeqAt.shaped
  rw [lay_rw h, decide_eq_true (Nat.le_trans (dep_rw T) (by decide))]
  rfl
section
variable {K : PySem.W.Frag} {H : Hp}
theorem dp_strs : ∀ k : List Str, DpAll K H (k.map V.str) (k.map .str)
  | [] => .nil
  | x :: k => .cons (.str x) (dp_strs k)
theorem dp_tx {a : Addr} {k : List Str} (h : H a = some (.tup (k.map V.str))) : Dp K H (.ref a) (txD k) := .tup (SqT.of h) (dp_strs k)
/-- the rows that stand at the addresses -/
def RowsAt (H : Hp) (ats : List (Addr × List Str)) : Prop := ∀ q ∈ ats, H q.1 = some (.tup (q.2.map V.str))
theorem dp_rows : ∀ {ats : List (Addr × List Str)}, RowsAt H ats → DpAll K H (ats.map fun q => V.ref q.1) ((ats.map (·.2)).map txD)
  | [], _ => .nil
  | q :: ats, h => .cons (dp_tx (h q (.head _))) (dp_rows fun p hp => h p (.tail _ hp))
theorem dp_rw {o : Addr} {ats : List (Addr × List Str)} (ho : H o = some (.tup (ats.map fun q => V.ref q.1))) (h : RowsAt H ats) : Dp K H (.ref o) (rwD (ats.map (·.2))) := .tup (SqT.of ho) (dp_rows h)
theorem RowsAt.keep {H' : Hp} {ats : List (Addr × List Str)} (h : RowsAt H ats) (s : Same H H') : RowsAt H' ats := fun q hq => s _ _ (h q hq)
end
/-! ### repr of {} and of {x: ((u, v),)} -/
def shD : Option (Str × Str × Str) → PyData
  | none => .dict []
  | some (x, u, v) => .dict [(.str x, .tuple [txD [u, v]])]
/-- the dict at a holds nothing, or one text with ((u, v),) -/
def ShAt (H : Hp) (a : Addr) : Option (Str × Str × Str) → Prop
  | none => H a = some (.dK [])
  | some (x, u, v) => ∃ t1 t2 : Addr, H a = some (.dK [(Sum.inr x, .ref t1)]) ∧ H t1 = some (.tup [.ref t2]) ∧ H t2 = some (.tup [.str u, .str v]) ∧ NOk x ∧ NOk u ∧ NOk v
theorem ShAt.keep {H H' : Hp} {a : Addr} {z : Option (Str × Str × Str)} (h : ShAt H a z) (s : Same H H') : ShAt H' a z := by
  cases z with
  | none => exact s _ _ h
  | some z =>
    obtain ⟨x, u, v⟩ := z
    obtain ⟨t1, t2, h1, h2, h3, r⟩ := h
    exact ⟨t1, t2, s _ _ h1, s _ _ h2, s _ _ h3, r⟩
def rReprSh : List V → Hp → VK → Prop := fun xs H Q => ∃ (a : Addr) (z : Option (Str × Str × Str)), xs = [V.ref a] ∧ ShAt H a z ∧ Q (.str (shD z).shown) H
theorem rt_len {x : Str} (h : NOk x) : (reprText x).length ≤ 20002 := by
  have z := StrLaws.reprText_len x fun c hc => Nat.lt_of_lt_of_le (h.sg c hc) (by decide)
  have := h.len
  omega
theorem sh_len {H : Hp} {a : Addr} {z : Option (Str × Str × Str)} (h : ShAt H a z) : (shD z).shown.length ≤ sizeLine := by
  cases z with
  | none =>
    unfold shD
    rw [PyData.shown, PyData.shownKv]
    decide +kernel
  | some z =>
    obtain ⟨x, u, v⟩ := z
    obtain ⟨_, _, _, _, _, hx, hu, hv⟩ := h
    have l1 := rt_len hx
    have l2 := rt_len hu
    have l3 := rt_len hv
    unfold shD txD
    simp only [List.map_cons, List.map_nil, PyData.shown, PyData.shownKv, PyData.shownAll]
    unfold dictText tupleText
    simp only [Str.join, str_cat, List.length_cons, List.length_nil]
    have e1 : ("{" : Str).length = 1 := rfl
    have e2 : ("}" : Str).length = 1 := rfl
    have e3 : (": " : Str).length = 2 := rfl
    have e4 : ("(" : Str).length = 1 := rfl
    have e5 : (", " : Str).length = 2 := rfl
    have e6 : (Str.ofString (if (0 + 1 == 1) = true then ",)" else ")")).length ≤ 2 := by decide +kernel
    have e7 : (Str.ofString (if (0 + 1 + 1 == 1) = true then ",)" else ")")).length ≤ 2 := by decide +kernel
    refine sz_le ?_
    omega
section
variable {X : Cx} {pins : List (Addr × Obj)} {σ : L2.St} {H : Hp} {s : Shared}
theorem reads_two (I : Inv X pins σ H s) {t : Addr} {u v : Str} (h : H t = some (.tup [.str u, .str v])) : Reads s.heap (.ref t) (txD [u, v]) [] := by
  obtain ⟨_, its, r, o, ho, hc, n, hd⟩ := I.hok _ _ h
  obtain ⟨x, y, rfl, ⟨t1, rfl⟩, ⟨t2, rfl⟩⟩ := r.two
  exact Reads.tuple ho hc hd (ReadsAll.cons (Reads.str u t1) (ReadsAll.cons (Reads.str v t2) ReadsAll.nil))
theorem reads_sh (I : Inv X pins σ H s) {a : Addr} {z : Option (Str × Str × Str)} (h : ShAt H a z) : ∃ as, Reads s.heap (.ref a) (shD z) as ∧ sysModules ∉ as := by
  cases z with
  | none =>
    obtain ⟨_, lo, vs, kv, o, es, ep, ho, hx, hd, hk, hp, nd⟩ := I.hok _ _ h
    have na : a ≠ sysModules := fun e => by rw [e] at lo; simp at lo
    cases kv
    have e : es.toList = [] := by
      cases hp' : es.toList with
      | nil => rfl
      | cons x r => rw [hp'] at hp; cases hp
    exact ⟨_, Reads.dict (kvs := []) (as := []) (bs := []) ho hx.1 hd (by rw [e]; exact ReadsAll.nil) (by rw [e]; exact ReadsAll.nil), fun m => na (Eq.symm (show sysModules = a by simpa using m))⟩
  | some z =>
    obtain ⟨x, u, v⟩ := z
    obtain ⟨t1, t2, h1, h2, h3, _⟩ := h
    obtain ⟨_, lo, vs, kv, o, es, ep, ho, hx, hd, hk, hp, nd⟩ := I.hok _ _ h1
    have na : a ≠ sysModules := fun e => by rw [e] at lo; simp at lo
    cases kv with
    | cons hq hr =>
      cases hr
      obtain ⟨e1, e2⟩ := hq
      rename_i b
      obtain ⟨k, w⟩ := b
      have e1 : Sum.inr x = k := e1
      have e2 : w = Value.ref t1 := e2
      subst e1 e2
      obtain ⟨en, he, hkey, hval⟩ : ∃ en : DictEntry, es.toList = [en] ∧ keyIs (Sum.inr x) en.key = true ∧ en.val = Value.ref t1 := by
        cases hp' : es.toList with
        | nil => rw [hp'] at hp; cases hp
        | cons en r =>
          rw [hp'] at hp
          cases hp with
          | cons q1 q2 q3 =>
            cases q3
            exact ⟨en, rfl, q1, q2⟩
      obtain ⟨t, hk2⟩ : ∃ t, en.key = Value.str x t := by
        rcases keyIs_shape hkey with ⟨i, t, e, _⟩ | ⟨y, t, e, ev⟩
        · cases e
        · cases e
          exact ⟨t, ev⟩
      obtain ⟨_, its, r, o1, ho1, hc1, n1, hd1⟩ := I.hok _ _ h2
      obtain ⟨w1, rfl, rw1⟩ := r.one
      have rw1 : w1 = Value.ref t2 := rw1
      subst rw1
      have R1 : Reads s.heap (.ref t1) (.tuple [txD [u, v]]) ([] ++ []) := Reads.tuple ho1 hc1 hd1 (ReadsAll.cons (reads_two I h3) ReadsAll.nil)
      refine ⟨_, Reads.dict (kvs := [(.str x, .tuple [txD [u, v]])]) (as := [] ++ []) (bs := ([] ++ []) ++ []) ho hx.1 hd ?_ ?_, fun m => na (Eq.symm (show sysModules = a by simpa using m))⟩
      · rw [he, List.map_cons, hk2]
        exact ReadsAll.cons (Reads.str x t) ReadsAll.nil
      · rw [he, List.map_cons, hval]
        exact ReadsAll.cons R1 ReadsAll.nil
theorem sh_showable (z : Option (Str × Str × Str)) : (shD z).showable = true := by
  cases z with
  | none => rfl
  | some z => rfl
theorem sh_dep (z : Option (Str × Str × Str)) : (shD z).depth ≤ 3 := by
  cases z with
  | none =>
    show (PyData.dict []).depth ≤ 3
    rw [PyData.depth, PyData.depthKv]
    decide
  | some z =>
    obtain ⟨x, u, v⟩ := z
    show (PyData.dict [(.str x, .tuple [txD [u, v]])]).depth ≤ 3
    rw [PyData.depth, PyData.depthKv, PyData.depthKv, PyData.depth, PyData.depth, PyData.depthAll, PyData.depthAll, dep_tx]
    decide
/-- repr(d), where nothing is being shown -/
theorem cr_reprSh (hg : X.A.guards = some []) (hu : X.A.units + 64 < cLine) : CallR X (.builtin "repr") rReprSh := by
  intro pins s σ H xs us Q I r h
  obtain ⟨a, z, rfl, hz, q⟩ := h
  rw [Vals.ref1 r]
  obtain ⟨as, rd, ns⟩ := reads_sh I hz
  have dp := sh_dep z
  refine repr_of_reads' rd (sh_showable z) (fun _ => ns) hg (by omega) (fun b o e => e) (fun g u tk kp => ?_) (sh_len hz)
  exact ⟨.str (shD z).shown, H, I.kept kp, ⟨u, rfl⟩, q⟩
end
end
section
open PySem PySem.Spec PyProof.Rows L2
/-! ### _law_pick -/
abbrev s_pick : Stmt := topS 6
abbrev N_pick : List Str := ["pool", "many", "row", "got", "x", "y", "z"]
theorem sc_pick : FnScope N_pick ["pool", "many"] (defScope s_pick) := ⟨rfl, rfl, rfl, by decide +kernel, rfl, by decide +kernel, by decide +kernel⟩
def spPick : Sp := fun vs H Q _ => ∃ (p g : Addr) (n : Int), vs = [.ref p, .int n] ∧ PoolAt H p g ∧ n < 1073741824 ∧
  ∀ (r : Int) (H' : Hp), PoolAt H' p g → But2 p g H H' → 0 ≤ r → (r < n ∨ r = 0) → Q (.int r) H'
section
variable {P : Program} {w : World} {K : PySem.W.Frag} {mg : Str → Option Value} {base : Heap}
theorem ok_pick {k : Nat} (D : DefAt K mg "_law_pick" s_pick ["pool", "many"]) (T : Txt mg) : C8.Cal P w K mg base (k + 1) "_law_pick" spPick [] := by
  obtain ⟨f, fd, F, hg, b⟩ := D.ex
  refine cal_of F hg b sc_pick (fun vs H Q E h => ?_) (fun cdv A outer s H vs Q E hr h => ?_)
  · obtain ⟨p, g, n, rfl, _⟩ := h
    rfl
  · obtain ⟨p, g, n, rfl, hP, hn, q⟩ := h
    have hu := hu_of hr
    refine ⟨_, (pss_cons (ps_if (pt_cmpR op_lt (pv 1) pe_int (nomark _))
    (pss_one (ps_ret pe_int))
  pss_nil)
(pss_cons (ps_set (i := 2) sc_pick.nd rfl (.inl rfl) (pe_ix (show IxR _ (rIxL K) from ix_list) (pv 0) pe_int (fun _ _ => rfl)))
(pss_cons (ps_if (pt_cmpR op_gt (pe_callB (show CallR _ (.builtin "len") (rLenQ K) from call_lenD') (by rfl) T.len PySem.boot_len (pa_cons (pv 2) pa_nil)) pe_int (nomark _))
    (pss_cons (ps_set (i := 3) sc_pick.nd rfl (.inl rfl) (pe_op op_mod (pe_callTy call_intD (by rfl) T.int (by decide +kernel) (pa_cons (pe_ix (show IxR _ (rIxL K) from ix_list) (pv 2) (pe_un un_neg pe_int) (fun _ _ => rfl)) pa_nil)) (pv 1)))
    (pss_cons (ps_asg (pe_op op_fdiv (pe_ix (show IxR _ (rIxL K) from ix_list) (pv 2) (pe_un un_neg pe_int) (fun _ _ => rfl)) (pv 1)) (pg_sub (pv 2) (pe_un un_neg pe_int) set_list))
    (pss_cons (ps_if (pt_cmpR op_eq (pe_ix (show IxR _ (rIxL K) from ix_list) (pv 2) (pe_un un_neg pe_int) (fun _ _ => rfl)) pe_int (nomark _))
        (pss_one (ps_expr (pe_bm0 PySem.F.plainAttrs_list PySem.F.slot_list_pop PySem.F.type_list_pop mt_pop (pv 2))))
      pss_nil)
    (pss_one (ps_ret (pv 3))))))
  pss_nil)
(pss_cons (ps_asg (pe_op op_add (pe_ix (show IxR _ (rIxL K) from ix_list) (pv 0) pe_int (fun _ _ => rfl)) pe_int) (pg_sub (pv 0) pe_int set_list))
(pss_cons (ps_set (i := 4) sc_pick.nd rfl (.inl rfl) (pe_op op_mod (pe_callTy call_intD (by rfl) T.int (by decide +kernel) (pa_cons (pe_op op_add (pe_op op_add (pe_op op_mul (pe_ix (show IxR _ (rIxL K) from ix_list) (pv 0) pe_int (fun _ _ => rfl)) pe_int) (pe_op op_mul pe_int (pe_ix (show IxR _ (rIxL K) from ix_list) (pv 0) pe_int (fun _ _ => rfl)))) pe_int) pa_nil)) pe_int))
(pss_cons (ps_asg (pv 4) (pg_sub (pv 0) pe_int set_list))
(pss_cons (ps_set (i := 5) sc_pick.nd rfl (.inl rfl) (pe_op op_mod (pe_callTy call_intD (by rfl) T.int (by decide +kernel) (pa_cons (pe_op op_add (pe_op op_add (pe_op op_mul (pv 4) (pv 4)) (pe_op op_mul pe_int (pe_ix (show IxR _ (rIxL K) from ix_list) (pv 0) pe_int (fun _ _ => rfl)))) pe_int) pa_nil)) pe_int))
(pss_cons (ps_set (i := 6) sc_pick.nd rfl (.inl rfl) (pe_op op_mod (pe_callTy call_intD (by rfl) T.int (by decide +kernel) (pa_cons (pe_op op_add (pe_op op_mul (pv 5) (pv 5)) (pv 4)) pa_nil)) pe_int))
(pss_one (ps_ret (pe_op op_mod (pe_callTy call_intD (by rfl) T.int (by decide +kernel) (pa_cons (pe_op op_fdiv (pv 6) pe_int) pa_nil)) (pv 1)))))))))))), ?_⟩
    obtain ⟨npg, ns, m, c, ep, eg, ln, m0, m1⟩ := id hP
    walk_at "go"
    refine ite2 (fun h2 => ?_) (fun h2 => ?_)
    · walk_at "go"
      exact q 0 H hP But2.refl (by omega) (.inr rfl)
    · have h2 : ¬ n < 2 := fun z => h2 (decide_eq_true z)
      walk_at "go"
      refine r_ixL (SqL.of ep) (at_of (j := 0) rfl rfl) ?_
      walk_at "go"
      refine r_lenL (SqL.of eg) ?_
      walk_at "go"
      refine ite2 (fun h3 => ?_) (fun h3 => ?_)
      · -- a great number is left
        have h3 : 0 < ns.length := by
          have z := of_decide_eq_true h3
          rw [List.length_map] at z
          omega
        obtain ⟨ms, z, rfl⟩ : ∃ (ms : List Int) (z : Int), ns = ms ++ [z] := ⟨ns.dropLast, ns.getLast (List.ne_nil_of_length_pos h3), (List.dropLast_concat_getLast _).symm⟩
        have em : ((ms ++ [z]).map V.int) = ms.map V.int ++ [V.int z] := by rw [List.map_append]; rfl
        rw [em] at eg
        walk_at "go"
        refine r_ixL (SqL.of eg) (atI_last _ _) ?_
        walk_at "go"
        refine r_ixL (SqL.of eg) (atI_last _ _) ?_
        walk_at "go"
        refine r_setLast eg ?_
        walk_at "go"
        refine r_ixL (SqL.of upd_same) (atI_last _ _) ?_
        walk_at "go"
        have ln' : ms.length + 1 ≤ 63 := by
          rw [List.length_append] at ln
          exact ln
        have hr0 : 0 ≤ z % n := Int.emod_nonneg _ (by omega)
        have hr1 : z % n < n := Int.emod_lt_of_pos _ (by omega)
        have ep' : ∀ o, upd H g o p = some (.lst [.ref g, .int m, .int c]) := fun o => by rw [upd_ne npg]; exact ep
        refine ite2 (fun h4 => ?_) (fun h4 => ?_)
        · walk_at "go"
          refine r_pop upd_same ?_
          walk_at "go"
          refine q _ _ ⟨npg, ms, m, c, by rw [upd_ne npg]; exact ep' _, upd_same, by omega, m0, m1⟩ (fun b o e h1 h2 => ?_) hr0 (.inl hr1)
          rw [upd_ne h2, upd_ne h2]
          exact e
        · walk_at "go"
          refine q _ _ ⟨npg, ms ++ [z / n], m, c, ep' _, by rw [upd_same, List.map_append]; rfl, by rw [List.length_append]; exact ln', m0, m1⟩ (fun b o e h1 h2 => ?_) hr0 (.inl hr1)
          rw [upd_ne h2]
          exact e
      · -- none is left: a reckoned number
        walk_at "go"
        refine r_ixL (SqL.of ep) (at_of (j := 2) rfl rfl) ?_
        walk_at "go"
        refine r_setL ep (j := 2) rfl ?_
        walk_at "go"
        refine r_ixL (SqL.of upd_same) (at_of (j := 1) rfl rfl) ?_
        walk_at "go"
        refine r_ixL (SqL.of upd_same) (at_of (j := 2) rfl rfl) ?_
        walk_at "go"
        refine r_setL upd_same (j := 1) rfl ?_
        walk_at "go"
        refine r_ixL (SqL.of upd_same) (at_of (j := 2) rfl rfl) ?_
        walk_at "go"
        have hx0 : 0 ≤ (m * 48271 + 11 * (c + 1) + 5) % 2147483647 := Int.emod_nonneg _ (by omega)
        have hx1 : (m * 48271 + 11 * (c + 1) + 5) % 2147483647 < 2147483647 := Int.emod_lt_of_pos _ (by omega)
        refine q _ _ ⟨npg, ns, _, _, upd_same, by rw [upd_ne npg.symm, upd_ne npg.symm]; exact eg, ln, hx0, hx1⟩ (fun b o e h1 h2 => ?_) (Int.emod_nonneg _ (by omega)) (.inl (Int.emod_lt_of_pos _ (by omega)))
        rw [upd_ne h1, upd_ne h1]
        exact e
/-! ### _law_one -/
abbrev s_one : Stmt := topS 7
abbrev N_one : List Str := ["pool", "row"]
theorem sc_one : FnScope N_one ["pool", "row"] (defScope s_one) := ⟨rfl, rfl, rfl, by decide +kernel, rfl, by decide +kernel, by decide +kernel⟩
def spOne (K : PySem.W.Frag) : Sp := fun vs H Q _ => ∃ (p g a : Addr) (xs : List V), vs = [.ref p, .ref a] ∧ PoolAt H p g ∧ SqL K H a xs ∧ xs ≠ [] ∧ xs.length ≤ 90000 ∧ a ≠ p ∧ a ≠ g ∧
  ∀ (v : V) (H' : Hp), v ∈ xs → PoolAt H' p g → But2 p g H H' → Q v H'
theorem ok_one {k : Nat} (D : DefAt K mg "_law_one" s_one ["pool", "row"]) (T : Txt mg) (c_pick : C8.Cal P w K mg base k "_law_pick" spPick []) : C8.Cal P w K mg base (k + 1) "_law_one" (spOne K) [] := by
  obtain ⟨f, fd, F, hg, b⟩ := D.ex
  refine cal_of F hg b sc_one (fun vs H Q E h => ?_) (fun cdv A outer s H vs Q E hr h => ?_)
  · obtain ⟨p, g, a, xs, rfl, _⟩ := h
    rfl
  · obtain ⟨p, g, a, xs, rfl, hP, hS, hne, hl, nap, nag, q⟩ := h
    refine ⟨_, (pss_one (ps_ret (pe_ix ix_list (pv 1) (C8.pe_c c_pick hr (Nat.le_refl _) (by rfl) (pa_cons (pv 0) (pa_cons (pe_callB call_lenD' (by rfl) T.len PySem.boot_len (pa_cons (pv 1) pa_nil)) pa_nil))) (fun _ _ => rfl)))), ?_⟩
    have hp : 0 < xs.length := List.length_pos_iff.mpr hne
    walk_at "go"
    refine r_lenL hS ?_
    walk_at "go"
    refine ⟨p, g, _, rfl, hP, by omega, fun r H' hP' e h0 h1 => ?_⟩
    have hi : r.toNat < xs.length := by omega
    refine r_ixL (e.seq hS nap nag) (at_of (j := r.toNat) (by omega) (List.getElem?_eq_getElem hi)) ?_
    exact q _ H' (List.getElem_mem hi) hP' e
/-! ### _law_names -/
theorem len_ofInt (i : Int) (h : i.natAbs.log2 < 1920) : (Str.ofString (toString i)).length ≤ 1921 := PyProof.Rows.int_text_len_1921 h
abbrev s_names : Stmt := topS 8
abbrev N_names : List Str := ["pool", "many", "taken", "signs", "told", "i", "text", "j"]
theorem sc_names : FnScope N_names ["pool", "many", "taken"] (defScope s_names) := ⟨rfl, rfl, rfl, by decide +kernel, rfl, by decide +kernel, by decide +kernel⟩
def spNames (K : PySem.W.Frag) : Sp := fun vs H Q _ => ∃ (p g t : Addr) (n : Int) (ts : List Str), vs = [.ref p, .int n, .ref t] ∧ PoolAt H p g ∧ 0 ≤ n ∧ n ≤ 100 ∧ SqL K H t (ts.map V.str) ∧ t ≠ p ∧ t ≠ g ∧
  ∀ (o : Addr) (ss : List Str) (H' : Hp), PoolAt H' p g → But2 p g H H' → H o = none → H' o = some (.lst (ss.map V.str)) → (ss.length : Int) = n → (∀ x ∈ ss, NOk x) → Q (.ref o) H'
theorem ok_names {k : Nat} (D : DefAt K mg "_law_names" s_names ["pool", "many", "taken"]) (T : Txt mg) (c_pick : C8.Cal P w K mg base (k + 1) "_law_pick" spPick []) (c_one : C8.Cal P w K mg base (k + 2) "_law_one" (spOne K) []) : C8.Cal P w K mg base (k + 3) "_law_names" (spNames K) [] := by
  obtain ⟨f, fd, F, hg, b⟩ := D.ex
  refine cal_of F hg b sc_names (fun vs H Q E h => ?_) (fun cdv A outer s H vs Q E hr h => ?_)
  · obtain ⟨p, g, t, n, ts, rfl, _⟩ := h
    rfl
  · obtain ⟨p, g, t, n, ts, rfl, hP, hn0, hn1, hT, ntp, ntg, q⟩ := h
    have hk1 : k + 1 ≤ k + 2 := Nat.le_succ _
    have hk2 : k + 2 ≤ k + 2 := Nat.le_refl _
    refine ⟨_, (pss_cons (ps_set (i := 3) sc_names.nd rfl (.inl rfl) pe_str)
(pss_cons (ps_set (i := 4) sc_names.nd rfl (.inl rfl) (pe_lst pa_nil))
(pss_cons (ps_for PassesOwn.never rfl (pi_range1 rfl T.range (pa_cons (pv 1) pa_nil)) (pg_name (i := 5) sc_names.nd rfl (.inl rfl))
    (pss_cons (ps_set (i := 6) sc_names.nd rfl (.inl rfl) (pe_ix ix_str (pv 3) (C8.pe_c c_pick hr (by omega) (by rfl) (pa_cons (pv 0) (pa_cons pe_int pa_nil))) (fun _ _ => rfl)))
    (pss_cons (ps_for PassesOwn.never rfl (pi_range1 rfl T.range (pa_cons (C8.pe_c c_one hr (by omega) (by rfl) (pa_cons (pv 0) (pa_cons (pe_lst (pa_cons pe_int (pa_cons pe_int (pa_cons pe_int (pa_cons pe_int (pa_cons pe_int (pa_cons pe_int (pa_cons pe_int pa_nil)))))))) pa_nil))) pa_nil)) (pg_name (i := 7) sc_names.nd rfl (.inl rfl))
        (pss_one (ps_set (i := 6) sc_names.nd rfl (.inl rfl) (pe_op op_addS (pv 6) (pe_ix ix_str (pv 3) (C8.pe_c c_pick hr (by omega) (by rfl) (pa_cons (pv 0) (pa_cons pe_int pa_nil))) (fun _ _ => rfl))))))
    (pss_cons (ps_for PassesOwn.never rfl (pi_range1 rfl T.range (pa_cons pe_int pa_nil)) (pg_name (i := 7) sc_names.nd rfl (.inl rfl))
        (pss_cons (ps_if (PW.pt (pw_and (pt_cmpR (show OpR _ (compareOp .NotIn) (rIn K true) from op_notIn_seq) (pv 6) (pv 2) (by with_unfolding_all rfl)) (pw_and1 (pt_cmpR (show OpR _ (compareOp .NotIn) (rIn K true) from op_notIn_seq) (pv 6) (pv 4) (by with_unfolding_all rfl)))))
            (pss_one ps_break)
          pss_nil)
        (pss_one (ps_set (i := 6) sc_names.nd rfl (.inl rfl) (pe_op op_addS (pe_slice sl_str (pv 6) po_none (po_some pe_int)) (pe_callTy call_strD (by rfl) T.str (by decide +kernel) (pa_cons (pe_op op_add (pe_op op_add pe_int (pe_op op_mul pe_int (pv 5))) (pv 7)) pa_nil)))))))
    (pss_one (ps_expr (pe_bm PySem.F.plainAttrs_list PySem.F.slot_list_append PySem.F.type_list_append mt_append (pv 4) (pa_cons (pv 6) pa_nil))))))))
(pss_one (ps_ret (pv 4)))))), ?_⟩
    walk_at "go"
    refine ⟨Nat.zero_le _, fun o no => ?_⟩
    walk_at "go"
    refine ⟨_, rfl, by omega, by omega, ?_⟩
    have nop : o ≠ p := fun z => hP.np (by rw [← z]; exact no)
    have nog : o ≠ g := fun z => hP.ng (by rw [← z]; exact no)
    have sg : ("abcdefghijklmnopqrstuvwxyz0123456789" : Str).cps.toList.length = 36 := by decide +kernel
    have sl : ("abcdefghijklmnopqrstuvwxyz0123456789" : Str).length ≤ 90000 := by decide +kernel
    refine for_range (lo := 0) (n := n.toNat) (fun i σ H' => ∃ (ss : List Str) (x5 x6 x7 : Option V), σ = [some (.ref p), some (.int n), some (.ref t), some (.str "abcdefghijklmnopqrstuvwxyz0123456789"), some (.ref o), x5, x6, x7] ∧ PoolAt H' p g ∧ But2 p g H H' ∧ H' o = some (.lst (ss.map V.str)) ∧ ss.length = i ∧ (∀ x ∈ ss, NOk x))
      ⟨[], none, none, none, rfl, hP.keep (same_upd no), But2.of (same_upd no), upd_same, rfl, fun x hx => nomatch hx⟩ (fun i σ H1 hi hW => ?_) (fun σ H1 hW => ?_)
    · obtain ⟨ss, x5, x6, x7, rfl, hP1, e1, ho1, hl1, hs1⟩ := hW
      walk_at "go"
      -- text = signs[pick(26)]
      refine ⟨p, g, 26, rfl, hP1, by omega, fun r H2 hP2 e2 r0 r1 => ?_⟩
      have hi2 : r.toNat < ("abcdefghijklmnopqrstuvwxyz0123456789" : Str).cps.toList.length := by omega
      refine r_ixS (k := r) sl (atI_of (j := r.toNat) (by omega) (List.getElem?_eq_getElem hi2)) ?_
      have ho2 := e2 _ _ ho1 nop nog
      walk_at "go"
      refine ⟨sz_le (by simp), fun c nc => ?_⟩
      have noc : o ≠ c := ne_of_none ho2 nc
      have ncp : c ≠ p := fun z => hP2.np (by rw [← z]; exact nc)
      have ncg : c ≠ g := fun z => hP2.ng (by rw [← z]; exact nc)
      walk_at "go"
      refine ⟨p, g, c, _, rfl, hP2.keep (same_upd nc), SqL.of upd_same, by simp, by simp, ncp, ncg, fun v H3 hv hP3 e3 => ?_⟩
      obtain ⟨m, rfl, m0, m1⟩ : ∃ m : Int, v = .int m ∧ 0 ≤ m ∧ m ≤ 7 := by
        simp only [List.mem_cons, List.not_mem_nil, or_false] at hv
        rcases hv with rfl | rfl | rfl | rfl | rfl | rfl | rfl <;> exact ⟨_, rfl, by decide, by decide⟩
      have ho3 : H3 o = some (.lst (ss.map V.str)) := e3 _ _ (by rw [upd_ne noc]; exact ho2) nop nog
      have e03 : But2 p g H H3 := ((e1.trans e2).trans (But2.of (same_upd nc))).trans e3
      walk_at "go"
      refine ⟨_, rfl, by omega, by omega, ?_⟩
      refine for_range (lo := 0) (n := m.toNat) (fun j σ H' => ∃ (tx : Str) (x7 : Option V), σ = [some (.ref p), some (.int n), some (.ref t), some (.str "abcdefghijklmnopqrstuvwxyz0123456789"), some (.ref o), some (.int (0 + (i : Int))), some (.str tx), x7] ∧ PoolAt H' p g ∧ But2 p g H H' ∧ H' o = some (.lst (ss.map V.str)) ∧ tx.length = 1 + j ∧ ∀ c ∈ tx.cps.toList, c < 0x110000)
        ⟨_, _, rfl, hP3, e03, ho3, rfl, sg_one (sg_of _) (List.getElem_mem hi2)⟩ (fun j σ H4 hj hW => ?_) (fun σ H4 hW => ?_)
      · obtain ⟨tx, y7, rfl, hP4, e4, ho4, hl4, hg4⟩ := hW
        walk_at "go"
        refine ⟨p, g, 36, rfl, hP4, by omega, fun r5 H5 hP5 e5 r50 r51 => ?_⟩
        have hi5 : r5.toNat < ("abcdefghijklmnopqrstuvwxyz0123456789" : Str).cps.toList.length := by omega
        refine r_ixS (k := r5) sl (atI_of (j := r5.toNat) (by omega) (List.getElem?_eq_getElem hi5)) ?_
        refine r_addS (by rw [hl4, len_one]; omega) ?_
        walk_at "go"
        refine ⟨_, _, rfl, hP5, e4.trans e5, e5 _ _ ho4 nop nog, ?_, sg_cat hg4 (sg_one (sg_of _) (List.getElem_mem hi5))⟩
        rw [str_cat, hl4, len_one]
        omega
      · obtain ⟨tx, y7, rfl, hP4, e4, ho4, hl4, hg4⟩ := hW
        walk_at "go"
        refine ⟨90, rfl, by decide, by decide, ?_⟩
        refine for_range (lo := 0) (n := (90 : Int).toNat) (fun j σ H' => H' = H4 ∧ ∃ (tx : Str) (x7 : Option V), σ = [some (.ref p), some (.int n), some (.ref t), some (.str "abcdefghijklmnopqrstuvwxyz0123456789"), some (.ref o), some (.int (0 + (i : Int))), some (.str tx), x7] ∧ NOk tx)
          ⟨rfl, _, _, rfl, by omega, hg4⟩ (fun j σ H5 hj hW => ?_) (fun σ H5 hW => ?_)
        · obtain ⟨rfl, tx5, z7, rfl, hk5⟩ := hW
          walk_at "go"
          refine r_inL (e4.seq hT ntp ntg) rfl (flat_strs _) ?_
          have hl5 := hk5.len
          walk_at "go"
          refine r_ite (fun _ => ?_) (fun _ => ?_)
          · walk_at "go"
            refine r_inL (SqL.of ho4) rfl (flat_strs _) ?_
            walk_at "go"
            refine r_ite (fun _ => ?_) (fun _ => ?_)
            · -- break
              walk_at "go"
              refine ⟨tyL ho4, ?_⟩
              walk_at "go"
              refine r_append ho4 (by rw [List.length_map]; omega) ?_
              walk_at "go"
              refine ⟨ss ++ [tx5], _, _, _, rfl, ⟨hP4.ne, ?_⟩, fun b o' e h1 h2 => ?_, by rw [upd_same, List.map_append]; rfl, by rw [List.length_append, List.length_singleton, hl1], fun x hx => ?_⟩
              · obtain ⟨_, ns, mm, cc, z1, z2, z3⟩ := hP4
                exact ⟨ns, mm, cc, by rw [upd_ne nop.symm]; exact z1, by rw [upd_ne nog.symm]; exact z2, z3⟩
              · rw [upd_ne (ne_of_none e no)]
                exact e4 b o' e h1 h2
              · rcases List.mem_append.mp hx with hx | hx
                · exact hs1 x hx
                · rw [List.mem_singleton.mp hx]
                  exact hk5
            · walk_at "go"
              refine r_slS (by omega) ?_
              walk_at "go"
              refine r_strI (by have h1 : (100 + 90 * (0 + (i : Int)) + (0 + (j : Int))).natAbs < 2 ^ 1919 := Nat.lt_of_le_of_lt (show _ ≤ 100000 by omega) (by decide +kernel)
                                exact Nat.lt_succ_of_lt (Nat.log2_lt (by omega) |>.mpr h1)) ?_
              have ls := len_ofInt (100 + 90 * (0 + (i : Int)) + (0 + (j : Int))) (by have h1 : (100 + 90 * (0 + (i : Int)) + (0 + (j : Int))).natAbs < 2 ^ 1919 := Nat.lt_of_le_of_lt (show _ ≤ 100000 by omega) (by decide +kernel)
                                                                                      exact Nat.lt_succ_of_lt (Nat.log2_lt (by omega) |>.mpr h1))
              have lc : (cutS tx5 none (some 4)).length ≤ 4 := cutS_le tx5 4
              refine r_addS (by omega) ?_
              walk_at "go"
              refine ⟨rfl, _, _, rfl, ?_, sg_cat (sg_cut hk5.sg _ _) (sg_of _)⟩
              rw [str_cat]
              omega
          · walk_at "go"
            refine r_ite (fun z => nomatch z) (fun _ => ?_)
            walk_at "go"
            refine r_slS (by omega) ?_
            walk_at "go"
            refine r_strI (by have h1 : (100 + 90 * (0 + (i : Int)) + (0 + (j : Int))).natAbs < 2 ^ 1919 := Nat.lt_of_le_of_lt (show _ ≤ 100000 by omega) (by decide +kernel)
                              exact Nat.lt_succ_of_lt (Nat.log2_lt (by omega) |>.mpr h1)) ?_
            have ls := len_ofInt (100 + 90 * (0 + (i : Int)) + (0 + (j : Int))) (by have h1 : (100 + 90 * (0 + (i : Int)) + (0 + (j : Int))).natAbs < 2 ^ 1919 := Nat.lt_of_le_of_lt (show _ ≤ 100000 by omega) (by decide +kernel)
                                                                                    exact Nat.lt_succ_of_lt (Nat.log2_lt (by omega) |>.mpr h1))
            have lc : (cutS tx5 none (some 4)).length ≤ 4 := cutS_le tx5 4
            refine r_addS (by omega) ?_
            walk_at "go"
            refine ⟨rfl, _, _, rfl, ?_, sg_cat (sg_cut hk5.sg _ _) (sg_of _)⟩
            rw [str_cat]
            omega
        · obtain ⟨rfl, tx5, z7, rfl, hk5⟩ := hW
          walk_at "go"
          refine ⟨tyL ho4, ?_⟩
          walk_at "go"
          refine r_append ho4 (by rw [List.length_map]; omega) ?_
          walk_at "go"
          refine ⟨ss ++ [tx5], _, _, _, rfl, ⟨hP4.ne, ?_⟩, fun b o' e h1 h2 => ?_, by rw [upd_same, List.map_append]; rfl, by rw [List.length_append, List.length_singleton, hl1], fun x hx => ?_⟩
          · obtain ⟨_, ns, mm, cc, z1, z2, z3⟩ := hP4
            exact ⟨ns, mm, cc, by rw [upd_ne nop.symm]; exact z1, by rw [upd_ne nog.symm]; exact z2, z3⟩
          · rw [upd_ne (ne_of_none e no)]
            exact e4 b o' e h1 h2
          · rcases List.mem_append.mp hx with hx | hx
            · exact hs1 x hx
            · rw [List.mem_singleton.mp hx]
              exact hk5
    · obtain ⟨ss, x5, x6, x7, rfl, hP1, e1, ho1, hl1, hs1⟩ := hW
      walk_at "go"
      exact q o ss H1 hP1 e1 no ho1 (by omega) hs1
end
end
section
open PySem PySem.Spec PyProof.Rows L2
theorem But2.tup {p g : Addr} {H H' : Hp} {a : Addr} {xs : List V} (e : But2 p g H H') (hP : PoolAt H p g) (h : H a = some (.tup xs)) : H' a = some (.tup xs) := by
  obtain ⟨_, ns, m, c, h1, h2, _⟩ := hP
  exact e _ _ h (ne_of h h1 (fun z => nomatch z)) (ne_of h h2 (fun z => nomatch z))
theorem But2.dT {p g : Addr} {H H' : Hp} {a : Addr} {xs : List (List Key × V)} (e : But2 p g H H') (hP : PoolAt H p g) (h : H a = some (.dT xs)) : H' a = some (.dT xs) := by
  obtain ⟨_, ns, m, c, h1, h2, _⟩ := hP
  exact e _ _ h (ne_of h h1 (fun z => nomatch z)) (ne_of h h2 (fun z => nomatch z))
/-- pool unchanged by a store at another object -/
theorem PoolAt.put {H : Hp} {p g a : Addr} {o : HO} (hP : PoolAt H p g) (h1 : a ≠ p) (h2 : a ≠ g) : PoolAt (upd H a o) p g := by
  obtain ⟨n, ns, m, c, z1, z2, r⟩ := hP
  exact ⟨n, ns, m, c, by rw [upd_ne h1.symm]; exact z1, by rw [upd_ne h2.symm]; exact z2, r⟩
theorem But2.mut {p g : Addr} {H H' : Hp} {a : Addr} {o : HO} (e : But2 p g H H') (h : H a = none) : But2 p g H (upd H' a o) := fun b x hb h1 h2 => by
  rw [upd_ne (ne_of_none hb h)]
  exact e b x hb h1 h2
section
variable {P : Program} {w : World} {K : PySem.W.Frag} {mg : Str → Option Value} {base : Heap}
/-- one of a written row -/
theorem one_lit {H : Hp} {p g : Addr} {Q : VK} {xs : List V} (hP : PoolAt H p g) (hne : xs ≠ []) (hl : xs.length ≤ 100) (h : ∀ (v : V) (H' : Hp), v ∈ xs → PoolAt H' p g → But2 p g H H' → Q v H') :
    xs.length ≤ sizeLine ∧ ∀ c, H c = none → spOne K [.ref p, .ref c] (upd H c (.lst xs)) Q C8.E0 := by
  refine ⟨sz_le (by omega), fun c nc => ?_⟩
  have ncp : c ≠ p := fun z => hP.np (by rw [← z]; exact nc)
  have ncg : c ≠ g := fun z => hP.ng (by rw [← z]; exact nc)
  exact ⟨p, g, c, xs, rfl, hP.keep (same_upd nc), SqL.of upd_same, hne, by omega, ncp, ncg, fun v H' hv hP' e => h v H' hv hP' ((But2.of (same_upd nc)).trans e)⟩
/-- a dict locked, then let go -/
theorem same_lock {H H' : Hp} {d : Addr} {u o : HO} (hd : H d = some u) (s : Same (upd H d o) H') : Same H (upd H' d u) := fun b x e => by
  by_cases hb : b = d
  · subst hb
    rw [hd] at e
    cases e
    exact upd_same
  · rw [upd_ne hb]
    exact s b x (by rw [upd_ne hb]; exact e)
/-- d[letter, name] -/
theorem r_key2 {K : PySem.W.Frag} {H : Hp} {d : Addr} {kvs : DT} {c n : Str} {v : V} {t : Addr} {Q : VK} (hd : H d = some (.dT kvs)) (hv : valV kvs (key c n) = some v) (ht : H t = some (.tup [.str c, .str n])) (q : Q v H) :
    ∃ a x, V.ref d = V.ref a ∧ DGet H a (.ref t) (some x) ∧ Q x H :=
  ⟨d, v, rfl, by
    have g := DGet.t (H := H) (a := d) (b := t) (kvs := kvs) (k := key c n) hd ht
    rw [hv] at g
    exact g, q⟩
theorem r_gk {σ : L2.St} {H : Hp} {i j : Nat} {d : Addr} {kvs : DT} {c n : Str} {v : V} {Q : VK} (hi : σ[i]? = some (some (.ref d))) (hj : σ[j]? = some (some (.str n))) (hd : H d = some (.dT kvs)) (hv : valV kvs (key c n) = some v) (q : ∀ H', Same H H' → Q v H') :
    tDGet (tVar i) (tTup (tCons (tC (.str c)) (tCons (tVar j) tNil))) σ H Q :=
  ⟨_, hi, _, hj, sz_le (by simp), fun t nt => r_key2 (K := default) (by rw [upd_ne (ne_of_none hd nt)]; exact hd) hv upd_same (q _ (same_upd nt))⟩
end
/-- d[letter, name] = v -/
theorem r_putkey {H : Hp} {d : Addr} {kvs : DT} {c n : Str} {v : V} {QH : Hp → Prop} (hd : H d = some (.dT kvs)) (hl : kvs.length ≤ 60) (q : ∀ H', H' d = some (.dT (putK kvs (key c n) v)) → But1 d H H' → QH H') :
    [V.str c, V.str n].length ≤ sizeLine ∧ ∀ t, H t = none → ∃ a H4, V.ref d = V.ref a ∧ DPut (upd H t (.tup [.str c, .str n])) a (.ref t) v H4 ∧ QH H4 :=
  ⟨sz_le (by simp), fun t nt => ⟨d, _, rfl, DPut.t (k := key c n) (by rw [upd_ne (ne_of_none hd nt)]; exact hd) upd_same (sz_lt (by omega)), q _ upd_same fun b o e hb => by
    rw [upd_ne hb, upd_ne (ne_of_none e nt)]
    exact e⟩⟩
def LcW (J : It) (g : TG) (tt : TT) (te : TE) (vs : List Nat) (σ : L2.St) (D : Addr) (H1 : Hp) (Q : VK) : Prop := ∃ W : Nat → Nat → Hp → Prop, (∃ m, W 0 m (upd H1 D (.lst []))) ∧ ∀ i m H, W i m H →
      (J.stop i H ∧ Q (.ref D) H) ∨ (J.go i H ∧ ∃ Nx : Hp → Prop, (∀ H', Nx H' → ∃ m', m' < m ∧ W (i + 1) m' H') ∧ ∀ x H', J.yld i H x H' → g x (wipe σ vs) H' fun σ2 H2 => wipe σ2 vs = wipe σ vs ∧ tt σ2 H2 fun b H3 =>
        if b = true then te σ2 H3 fun y H4 => ∃ acc, H4 D = some (.lst acc) ∧ acc.length < sizeLine ∧ Nx (upd H4 D (.lst (acc ++ [y]))) else Nx H3)
theorem r_lc {wi : TI} {g : TG} {tt : TT} {te : TE} {vs : List Nat} {σ : L2.St} {H : Hp} {Q : VK} (h : wi σ H fun J H1 => ∀ D, H1 D = none → LcW J g tt te vs σ D H1 Q) : tLc wi g tt te vs σ H Q := h
theorem cutV_to (xs : List V) (i : Nat) : cutV xs none (some (i : Int)) = xs.take i := by
  unfold cutV
  rw [HT.sIx_none, HT.sIx_nat, List.drop_zero]
  by_cases h : i ≤ xs.length
  · rw [Nat.min_eq_left h]
    rfl
  · rw [Nat.min_eq_right (by omega), List.take_of_length_le (by omega), List.take_of_length_le (by omega)]
/-- t[:i], less than the whole -/
theorem r_slTo {K : PySem.W.Frag} {H : Hp} {Q : VK} {a : Addr} {xs : List V} {i : Nat} {z : Int} (ez : z = (i : Int)) (hs : SqT K H a xs) (hi : i < xs.length) (h : ∀ p, H p = none → Q (.ref p) (upd H p (.tup (xs.take i)))) : rSlA K (.ref a) none (some z) H Q := by
  subst ez
  refine ⟨a, xs, rfl, hs, fun e => ?_, fun _ p np => ?_⟩
  · have e2 := e.2
    rw [HT.sIx_nat] at e2
    omega
  · rw [cutV_to]
    exact h p np
theorem r_yes {σ : L2.St} {H : Hp} {A B : Hp → Prop} (h : A H) : tYes σ H (fun b H1 => if b = true then A H1 else B H1) := by
  show (if true = true then A H else B H)
  rw [if_pos rfl]
  exact h
end
section
open PySem PySem.Spec PyProof.Rows L2
section
variable {P : Program} {w : World} {K : PySem.W.Frag} {mg : Str → Option Value} {base : Heap}
/-! ### units_in -/
abbrev s_units_in : Stmt := topS 1
abbrev N_units_in : List Str := ["past", "letter", "name"]
theorem sc_units_in : FnScope N_units_in ["past"] (defScope s_units_in) := ⟨rfl, rfl, rfl, by decide +kernel, rfl, by decide +kernel, by decide +kernel⟩
def spUnitsIn : Sp := fun vs H Q _ => ∃ (p d : Addr) (x y : V) (kvs : DT), vs = [.ref p] ∧ H p = some (.tup [.ref d, x, y]) ∧ H d = some (.dT kvs) ∧ DAt kvs ∧
  ∀ (o : Addr) (ys : List Str) (H' : Hp), Same H H' → H o = none → H' o = some (.lst (ys.map V.str)) → ys.Perm (ukeys kvs) → sortedS ys = true → Q (.ref o) H'
theorem ok_units_in {k : Nat} (D : DefAt K mg "units_in" s_units_in ["past"]) (T : Txt mg) : C8.Cal P w K mg base (k + 1) "units_in" spUnitsIn [] := by
  obtain ⟨f, fd, F, hg, b⟩ := D.ex
  refine cal_of F hg b sc_units_in (fun vs H Q E h => ?_) (fun cdv A outer s H vs Q E hr h => ?_)
  · obtain ⟨p, d, x, y, kvs, rfl, _⟩ := h
    rfl
  · obtain ⟨p, d, x, y, kvs, rfl, hp, hd, dk, q⟩ := h
    refine ⟨_, (pss_one (ps_ret (pe_callB (show CallR _ (.builtin "sorted") (rSortedS K) from cr_sortedS) (by rfl) T.sorted (by decide +kernel) (pa_cons (pe_lock (pe_lc (own := [("letter", 1), ("name", 2)]) rfl sc_units_in.nd (pi_keys (pe_ix (show IxR _ (rIxT K) from ix_tup) (pv 0) pe_int (fun _ _ => rfl))) (blkOk_by (own := [("letter", 1), ("name", 2)]) (N := N_units_in) (sc := defScope s_units_in) (by decide +kernel)) (fun _ _ _ _ _ => (show PG _ _ (gTup K 2 _) from pg_tup rfl (pgs_cons (pg_name (i := 1) sc_units_in.nd rfl (.inl rfl)) (pgs_cons (pg_name (i := 2) sc_units_in.nd rfl (.inl rfl)) pgs_nil)))) (fun _ _ _ _ _ => pts_one (pt_cmpR op_eq (pv 1) pe_str (nomark _))) (fun _ _ _ _ _ => (pv 2)))) pa_nil)))), ?_⟩
    walk_at "go"
    refine ⟨d, _, hd, trivial, fun od => ?_⟩
    have npd : p ≠ d := ne_of hp hd (fun z => nomatch z)
    refine (show tOp _ _ _ _ _ _ from ?_)
    walk_at "go"
    refine r_ixT (SqT.of (by rw [upd_ne npd]; exact hp)) (atI_of (j := 0) rfl rfl) ?_
    refine ⟨d, od, rfl, .inr ⟨kvs, upd_same, fun Dl nl => ?_⟩⟩
    have nld : d ≠ Dl := ne_of_none (upd_same (H := H) (a := d)) nl
    refine lc_it walk_keysT (fun i H' => Same (upd H d (.frz od (.dT kvs))) H' ∧ H' Dl = some (.lst ((ukeys (kvs.take i)).map V.str))) ⟨same_upd nl, upd_same⟩ (fun i H' _ h => h.1 _ _ upd_same) (fun i x H1 H2 hi hP hy => ?_) (fun H1 hP => ?_)
    · obtain ⟨rfl, k, v, t, hk, rfl, ht⟩ := hy
      obtain ⟨c, n, z, e⟩ := dk.ks _ (List.mem_of_getElem? hk)
      cases e
      have ht' : SqT K H2 t [.str c, .str n] := SqT.of ht
      refine ⟨t, _, rfl, ht', rfl, ?_⟩
      refine ⟨_, _, rfl, ?_⟩
      walk_at "go"
      refine ⟨_, _, rfl, ?_⟩
      walk_at "go"
      refine ⟨rfl, ?_⟩
      refine ⟨rfl, ?_⟩
      walk_at "go"
      refine ite2 (fun e => ?_) (fun e => ?_)
      · have ec : c = "b" := of_decide_eq_true e
        refine (show tVar _ _ _ _ from ?_)
        walk_at "go"
        have lu := ukeys_len (kvs.take i)
        have lt : (kvs.take i).length ≤ 60 := by
          rw [List.length_take]
          have := dk.ln
          omega
        refine ⟨_, hP.2, sz_lt (by rw [List.length_map]; omega), Same.mut hP.1 nl, ?_⟩
        rw [upd_same, ukeys_snoc hk, ukey_key, if_pos ec, List.map_append]
        rfl
      · have ec : ¬ c = "b" := fun z => e (decide_eq_true z)
        refine ⟨hP.1, ?_⟩
        rw [ukeys_snoc hk, ukey_key, if_neg ec, hP.2]
        simp
    · obtain ⟨s1, h1⟩ := hP
      rw [List.take_length] at h1
      refine ⟨s1 _ _ upd_same, ?_⟩
      have s2 : Same H (upd H1 d (.dT kvs)) := same_lock hd s1
      have nl0 : H Dl = none := by rw [upd_ne nld.symm] at nl; exact nl
      walk_at "go"
      have lu := ukeys_len kvs
      have lk := dk.ln
      refine ⟨Dl, ukeys kvs, rfl, SqL.of (by rw [upd_ne nld.symm]; exact h1), by omega, fun ys p hp hs np => ?_⟩
      exact q p ys _ (s2.trans (same_upd np)) (s2.free np) upd_same hp hs
end
end
section
open PySem PySem.Spec PyProof.Rows L2
def Lt (u v : Str) : Prop := u.cps.toList < v.cps.toList
theorem str_ext {a b : Str} (h : a.cps.toList = b.cps.toList) : a = b := by
  cases a with
  | mk x => cases b with
    | mk y => rw [show x = y from Array.toList_inj.mp h]
theorem lt_of_rise {a b : Str} (h : ltCps b.cps.toList a.cps.toList = false) (hn : a ≠ b) : Lt a b := by
  rw [ltCps_eq] at h
  have h1 : ¬ b.cps.toList < a.cps.toList := of_decide_eq_false h
  rcases Classical.em (a.cps.toList < b.cps.toList) with h2 | h2
  · exact h2
  · exact absurd (str_ext (List.le_antisymm h1 h2)) hn
theorem rise_pw : ∀ (r : List Str) (p : Str), risingS p r = true → (p :: r).Nodup → (p :: r).Pairwise Lt
  | [], p, _, _ => List.pairwise_singleton ..
  | x :: r, p, h, nd => by
    have h' : (!ltCps x.cps.toList p.cps.toList && risingS x r) = true := h
    rw [Bool.and_eq_true] at h'
    have nd2 := List.nodup_cons.mp nd
    have ih := rise_pw r x h'.2 nd2.2
    have hpx : Lt p x := lt_of_rise (by simpa using h'.1) (fun z => nd2.1 (by rw [z]; exact .head _))
    refine List.pairwise_cons.mpr ⟨fun y hy => ?_, ih⟩
    rcases List.mem_cons.mp hy with rfl | hy
    · exact hpx
    · exact List.lt_trans hpx ((List.pairwise_cons.mp ih).1 y hy)
theorem sorted_pw {l : List Str} (h : sortedS l = true) (nd : l.Nodup) : l.Pairwise Lt := by
  cases l with
  | nil => exact .nil
  | cons p r => exact rise_pw r p h nd
/-- the same texts in their order: the same row -/
theorem pw_eq : ∀ {l m : List Str}, l.Pairwise Lt → m.Pairwise Lt → (∀ x, x ∈ l ↔ x ∈ m) → l = m
  | [], [], _, _, _ => rfl
  | [], y :: m, _, _, h => nomatch (h y).mpr (.head _)
  | x :: l, [], _, _, h => nomatch (h x).mp (.head _)
  | x :: l, y :: m, hl, hm, h => by
    obtain ⟨l1, l2⟩ := List.pairwise_cons.mp hl
    obtain ⟨m1, m2⟩ := List.pairwise_cons.mp hm
    have irr : ∀ z : Str, ¬ Lt z z := fun z => List.lt_irrefl _
    have no : ∀ {a b : Str}, Lt a b → Lt b a → False := fun {a b} p q => irr a (List.lt_trans p q)
    have e1 : x = y := by
      rcases List.mem_cons.mp ((h x).mp (.head _)) with q | q
      · exact q
      · rcases List.mem_cons.mp ((h y).mpr (.head _)) with q2 | q2
        · exact q2.symm
        · exact (no (l1 y q2) (m1 x q)).elim
    subst e1
    rw [pw_eq l2 m2 fun z => ⟨fun q => ?_, fun q => ?_⟩]
    · rcases List.mem_cons.mp ((h z).mp (.tail _ q)) with q2 | q2
      · rw [q2] at q
        exact (irr x (l1 x q)).elim
      · exact q2
    · rcases List.mem_cons.mp ((h z).mpr (.tail _ q)) with q2 | q2
      · rw [q2] at q
        exact (irr x (m1 x q)).elim
      · exact q2
/-- the units in their order -/
structure Us (kvs : DT) (U : List Str) : Prop where
  pm : U.Perm (ukeys kvs)
  so : sortedS U = true
theorem Us.nd {kvs : DT} {U : List Str} (h : Us kvs U) (dk : DAt kvs) : U.Nodup := h.pm.nodup_iff.mpr (ukeys_nd dk.nd)
theorem us_eq {kvs : DT} {U W : List Str} (h : Us kvs U) (g : Us kvs W) (dk : DAt kvs) : U = W :=
  pw_eq (sorted_pw h.so (h.nd dk)) (sorted_pw g.so (g.nd dk)) fun x => h.pm.mem_iff.trans g.pm.mem_iff.symm
/-- a unit's year under a letter -/
def yOf (c : Str) (kvs : DT) (n : Str) : Int := match valV kvs (key c n) with
  | some (.int i) => i
  | _ => 0
theorem yOf_of {c : Str} {kvs : DT} {n : Str} {i : Int} (h : valV kvs (key c n) = some (.int i)) : yOf c kvs n = i := by
  unfold yOf
  rw [h]
abbrev bOf (kvs : DT) : Str → Int := yOf "b" kvs
abbrev eOf (kvs : DT) : Str → Int := yOf "e" kvs
theorem yrs_of {kvs : DT} {n : Str} (dk : DAt kvs) (h : n ∈ ukeys kvs) : valV kvs (key "b" n) = some (.int (bOf kvs n)) ∧ valV kvs (key "e" n) = some (.int (eOf kvs n)) ∧ bOf kvs n ≤ eOf kvs n := by
  obtain ⟨b, hb⟩ := (ukeys_val dk).mp h
  obtain ⟨_, e, he, hle⟩ := dk.be n b hb
  rw [show bOf kvs n = b from yOf_of hb, show eOf kvs n = e from yOf_of he]
  exact ⟨hb, he, hle⟩
theorem Us.be {kvs : DT} {U : List Str} (h : Us kvs U) (dk : DAt kvs) : ∀ u ∈ U, bOf kvs u ≤ eOf kvs u := fun u hu => (yrs_of dk (h.pm.mem_iff.mp hu)).2.2
theorem Us.ln {kvs : DT} {U : List Str} (h : Us kvs U) (dk : DAt kvs) : U.length ≤ 60 := by
  rw [h.pm.length_eq]
  exact Nat.le_trans (ukeys_len kvs) dk.ln
/-- k64's dict: years to 4000, names of signs -/
structure D4 (kvs : DT) : Prop where
  d : DAt kvs
  b4 : ∀ (n : Str) (i : Int), valV kvs (key "b" n) = some (.int i) → i ≤ 4000
  nk : ∀ (c n : Str) (v : V), (key c n, v) ∈ kvs → NOk n
theorem D4.nil : D4 [] := ⟨DAt.nil, fun _ _ h => (nomatch h), fun _ _ _ h => (nomatch h)⟩
theorem D4.us {kvs : DT} {U : List Str} (h : D4 kvs) (g : Us kvs U) : ∀ u ∈ U, NOk u := fun u hu => by
  obtain ⟨v, hv⟩ := mem_ukeys.mp (g.pm.mem_iff.mp hu)
  exact h.nk _ _ _ hv
theorem nk_put {kvs : DT} (h : ∀ (c n : Str) (v : V), (key c n, v) ∈ kvs → NOk n) {c n : Str} {v : V} (hn : NOk n) : ∀ (c' n' : Str) (v' : V), (key c' n', v') ∈ putK kvs (key c n) v → NOk n' := fun c' n' v' hm => by
  rcases putK_mem hm with hm | e
  · exact h _ _ _ hm
  · rw [(key_inj (congrArg Prod.fst e)).2]
    exact hn
theorem D4.put2 {kvs : DT} (d : D4 kvs) {n : Str} {lo hi : Int} (hn : NOk n) (h0 : 0 ≤ lo) (h1 : lo ≤ hi) (h4 : lo ≤ 4000) (hl : kvs.length ≤ 58) : D4 (putK (putK kvs (key "b" n) (.int lo)) (key "e" n) (.int hi)) := by
  refine ⟨d.d.put2 h0 h1 hl, fun m i hm => ?_, nk_put (nk_put d.nk hn) hn⟩
  rw [valV_put, if_neg (fun z => be_ne (key_inj z).1), valV_put] at hm
  by_cases e : m = n
  · subst e
    rw [if_pos rfl] at hm
    cases hm
    exact h4
  · rw [if_neg (fun z => e (key_inj z).2)] at hm
    exact d.b4 m i hm
theorem D4.put1 {kvs : DT} (d : D4 kvs) {c n : Str} {i : Int} (hn : NOk n) (hb : ¬ c = "b") (he : ¬ c = "e") (hl : kvs.length ≤ 59) : D4 (putK kvs (key c n) (.int i)) := by
  refine ⟨d.d.put1 hb he hl, fun m x hm => ?_, nk_put d.nk hn⟩
  rw [valV_put, if_neg (fun z => hb (key_inj z).1.symm)] at hm
  exact d.b4 m x hm
/-- an end moved -/
theorem D4.putE {kvs : DT} (d : D4 kvs) {n : Str} {v : V} {j : Int} (h : valV kvs (key "e" n) = some v) (hj : ∀ i : Int, valV kvs (key "b" n) = some (.int i) → i ≤ j) (hn : NOk n) : D4 (putK kvs (key "e" n) (.int j)) := by
  have hs : (valV kvs (key "e" n)).isSome = true := by rw [h]; rfl
  refine ⟨⟨putK_nd _ d.d.nd, fun e he => ?_, fun m i hm => ?_, ?_⟩, fun m i hm => ?_, nk_put d.nk hn⟩
  · rcases putK_mem he with he | rfl
    · exact d.d.ks e he
    · exact ⟨_, _, _, rfl⟩
  · rw [valV_put, if_neg (fun z => be_ne (key_inj z).1)] at hm
    rw [valV_put]
    obtain ⟨i0, k, hk, ik⟩ := d.d.be m i hm
    by_cases e : m = n
    · subst e
      exact ⟨i0, j, by rw [if_pos rfl], hj i hm⟩
    · exact ⟨i0, k, by rw [if_neg (fun z => e (key_inj z).2)]; exact hk, ik⟩
  · have e := congrArg List.length (putK_keys (.int j) hs)
    rw [List.length_map, List.length_map] at e
    rw [e]
    exact d.d.ln
  · rw [valV_put, if_neg (fun z => be_ne (key_inj z).1)] at hm
    exact d.b4 m i hm
end
section
open PySem PySem.Spec PyProof.Rows L2
/-- k64's built-in names -/
structure Txt4 (mg : Str → Option Value) : Prop extends Txt mg where
  all : mg "all" = none
  any : mg "any" = none
  set : mg "set" = none
  repr : mg "repr" = none
/-! ### comprehensions that leave the rest as it is -/
def LcP {α : Type} (H1 : Hp) (D : Addr) (ks : List α) (f : α → Option V) (i : Nat) (H : Hp) : Prop := Same H1 H ∧ H D = some (.lst ((ks.take i).filterMap f))
section
variable {α : Type} {H1 H H4 : Hp} {D : Addr} {ks : List α} {f : α → Option V} {i : Nat} {k : α} {y : V}
theorem LcP.zero (nD : H1 D = none) : LcP H1 D ks f 0 (upd H1 D (.lst [])) := ⟨same_upd nD, upd_same⟩
theorem fm_snoc (hk : ks[i]? = some k) : (ks.take (i + 1)).filterMap f = (ks.take i).filterMap f ++ (f k).toList := by
  rw [List.take_add_one, hk, List.filterMap_append]
  cases e : f k <;> simp [e]
theorem LcP.yes (P : LcP H1 D ks f i H) (nD : H1 D = none) (hk : ks[i]? = some k) (s : Same H H4) (e : f k = some y) (hl : ks.length ≤ 1000) : ∃ acc, H4 D = some (.lst acc) ∧ acc.length < sizeLine ∧ LcP H1 D ks f (i + 1) (upd H4 D (.lst (acc ++ [y]))) := by
  have l1 := List.length_filterMap_le f (ks.take i)
  have l2 : (ks.take i).length ≤ ks.length := by rw [List.length_take]; exact Nat.min_le_right _ _
  refine ⟨_, s _ _ P.2, sz_lt (by omega), Same.mut (P.1.trans s) nD, ?_⟩
  rw [upd_same, fm_snoc hk, e]
  rfl
theorem LcP.no (P : LcP H1 D ks f i H) (hk : ks[i]? = some k) (s : Same H H4) (e : f k = none) : LcP H1 D ks f (i + 1) H4 := by
  refine ⟨P.1.trans s, ?_⟩
  rw [fm_snoc hk, e, s _ _ P.2]
  simp
theorem LcP.all (P : LcP H1 D ks f ks.length H) : Same H1 H ∧ H D = some (.lst (ks.filterMap f)) := by
  have z := P.2
  rw [List.take_length] at z
  exact ⟨P.1, z⟩
theorem fm_if {β : Type} (p : α → Bool) (v : α → β) (l : List α) : (l.filterMap fun k => if p k = true then some (v k) else none) = (l.filter p).map v := by
  induction l with
  | nil => rfl
  | cons a l ih =>
    rw [List.filterMap_cons, List.filter_cons]
    cases h : p a with
    | true => simp [ih]
    | false => simp [ih]
theorem fm_all {β : Type} (v : α → β) (l : List α) : (l.filterMap fun k => some (v k)) = l.map v := by
  rw [List.filterMap_eq_map']
end
theorem inV_dec (n : Str) (ys : List Str) : inV (.str n) (ys.map V.str) = decide (n ∈ ys) := by
  rw [Bool.eq_iff_iff, decide_eq_true_eq]
  unfold inV
  rw [List.any_eq_true]
  constructor
  · rintro ⟨x, hx, e⟩
    obtain ⟨z, hz, rfl⟩ := List.mem_map.mp hx
    have e : (z == n) = true := e
    rw [← eq_of_beq e]
    exact hz
  · intro h
    exact ⟨.str n, List.mem_map.mpr ⟨n, h, rfl⟩, beq_self_eq_true n⟩
theorem get_map {α β : Type} {g : α → β} {l : List α} {i : Nat} {x : β} (h : (l.map g)[i]? = some x) : ∃ k, l[i]? = some k ∧ x = g k := by
  rw [List.getElem?_map] at h
  cases e : l[i]? with
  | none => rw [e] at h; cases h
  | some k =>
    rw [e] at h
    exact ⟨k, rfl, (Option.some.inj h).symm⟩
section
variable {P : Program} {w : World} {K : PySem.W.Frag} {mg : Str → Option Value} {base : Heap}
/-! ### is_part_of -/
abbrev s_is_part_of : Stmt := topS 2
abbrev N_is_part_of : List Str := ["few", "many", "unit"]
theorem sc_is_part_of : FnScope N_is_part_of ["few", "many"] (defScope s_is_part_of) := ⟨rfl, rfl, rfl, by decide +kernel, rfl, by decide +kernel, by decide +kernel⟩
def spPart : Sp := fun vs H Q _ => ∃ (a c : Addr) (few many : List Str), vs = [.ref a, .ref c] ∧ H a = some (.tup (few.map V.str)) ∧ H c = some (.tup (many.map V.str)) ∧ (∀ x ∈ few, NOk x) ∧ (∀ x ∈ many, NOk x) ∧ few.length ≤ 100 ∧
  ∀ (H' : Hp), Same H H' → Q (.bl (partB few many)) H'
theorem ok_part {k : Nat} (D : DefAt K mg "is_part_of" s_is_part_of ["few", "many"]) (T : Txt4 mg) : C8.Cal P w K mg base (k + 1) "is_part_of" spPart [] := by
  obtain ⟨f, fd, F, hg, b⟩ := D.ex
  refine cal_of F hg b sc_is_part_of (fun vs H Q E h => ?_) (fun cdv A outer s H vs Q E hr h => ?_)
  · obtain ⟨a, c, few, many, rfl, _⟩ := h
    rfl
  · obtain ⟨a, c, few, many, rfl, ha, hc, kf, km, lf, q⟩ := h
    refine ⟨_, (pss_one (ps_ret (pe_and (pe_cmpR (show OpR _ (compareOp .NotEq) (rNeD K) from (op_neD hr.units)) (pv 0) (pv 1) (nomark _)) (pe_one (pe_callB (show CallR _ (.builtin "all") (rAll K) from (cr_all rfl)) (by rfl) T.all (by decide +kernel) (pa_cons (pe_lc (own := [("unit", 2)]) rfl sc_is_part_of.nd (pi_tup (pv 0)) (blkOk_by (own := [("unit", 2)]) (N := N_is_part_of) (sc := defScope s_is_part_of) (by decide +kernel)) (fun _ _ _ _ _ => (pg_name (i := 2) sc_is_part_of.nd rfl (.inl rfl))) (fun _ _ _ _ _ => pts_nil) (fun _ _ _ _ _ => (pe_cmpR (show OpR _ (compareOp .In) (rIn K false) from op_in_seq) (pv 2) (pv 1) (by with_unfolding_all rfl)))) pa_nil)))))), ?_⟩
    walk_at "go"
    refine ⟨txD few, txD many, dp_tx ha, dp_tx hc, shaped_tx kf, shaped_tx km, ?_⟩
    walk_at "go"
    rw [eqv_tx]
    refine r_ite (fun e => ?_) (fun e => ?_)
    · refine (show tCB _ _ _ _ _ from ?_)
      walk_at "go"
      refine r_lc ?_
      walk_at "go"
      refine ⟨a, rfl, ⟨_, SqT.of ha⟩, fun Dl nl => ?_⟩
      refine lc_it (walk_tup (xs := few.map V.str)) (LcP H Dl few fun u => some (V.bl (decide (u ∈ many)))) (LcP.zero nl) (fun i H' _ h => SqT.of (h.1 _ _ ha)) (fun i x H1 H2 hi hP hy => ?_) (fun H1 hP => ?_)
      · obtain ⟨rfl, hx⟩ := hy
        obtain ⟨n, hn, rfl⟩ := get_map hx
        walk_at "go"
        refine ⟨rfl, ?_⟩
        refine r_yes ?_
        walk_at "go"
        refine r_inT (SqT.of (hP.1 _ _ hc)) rfl (flat_strs _) ?_
        rw [if_neg Bool.false_ne_true, inV_dec]
        exact hP.yes nl hn (Same.refl _) rfl (by omega)
      · rw [List.length_map] at hP
        obtain ⟨s1, h1⟩ := hP.all
        rw [fm_all] at h1
        walk_at "go"
        refine ⟨Dl, few.map fun u => decide (u ∈ many), rfl, SqL.of (by rw [List.map_map]; exact h1), ?_⟩
        have := q H1 s1
        unfold partB at this
        rw [e, Bool.true_and] at this
        rw [List.all_map]
        exact this
    · have := q H (Same.refl _)
      unfold partB at this
      rw [e, Bool.false_and] at this
      exact this
end
end
section
open PySem PySem.Spec PyProof.Rows L2
theorem r_sc {ww : World} {wi : TI} {g : TG} {tt : TT} {te : TE} {vs : List Nat} {σ : L2.St} {H : Hp} {Q : VK} (h : wi σ H fun J H1 => ∀ D, H1 D = none → ScW ww J g tt te vs σ D H1 Q) : tScI ww wi g tt te vs σ H Q := h
/-- a set comprehension over a walk -/
theorem sc_it {ww : World} {J : It} {n : Nat} {G : Hp → Prop} {Y : Nat → Hp → V → Hp → Prop} (w : Walk J n G Y) {g : TG} {tt : TT} {te : TE} {vs : List Nat} {σ : L2.St} {H1 : Hp} {D : Addr} {Q : VK} (Pv : Nat → Hp → Prop) (h0 : Pv 0 (upd H1 D (SetO ww D (fun _ => false) 0))) (hG : ∀ i H, i ≤ n → Pv i H → G H)
    (hs : ∀ i x H H', i < n → Pv i H → Y i H x H' → g x (wipe σ vs) H' fun σ2 H2 => wipe σ2 vs = wipe σ vs ∧ tt σ2 H2 fun b H3 => if b = true then te σ2 H3 fun y H4 => ∃ (c : Int) (S : Int → Bool) (k : Nat), y = .int c ∧ H4 D = some (SetO ww D S k) ∧ k ≤ 100 ∧ Pv (i + 1) (upd H4 D (addO ww D S k c)) else Pv (i + 1) H3)
    (hd : ∀ H, Pv n H → Q (.ref D) H) : ScW ww J g tt te vs σ D H1 Q := by
  refine ⟨fun i m H => m = n - i ∧ i ≤ n ∧ Pv i H, ⟨n, rfl, Nat.zero_le _, h0⟩, fun i m H hW => ?_⟩
  obtain ⟨rfl, hi, p⟩ := hW
  by_cases lt : i < n
  · exact .inr ⟨w.goes i H lt (hG i H hi p), Pv (i + 1), fun H' p' => ⟨n - (i + 1), by omega, rfl, lt, p'⟩, fun x H' y => hs i x H H' lt p (w.yields i H x H' lt (hG i H hi p) y)⟩
  · obtain rfl : i = n := by omega
    exact .inl ⟨w.stops H (hG i H hi p), hd H p⟩
section
variable {P : Program} {w : World} {K : PySem.W.Frag} {mg : Str → Option Value} {base : Heap}
/-! ### phases -/
abbrev s_phases : Stmt := topS 3
abbrev N_phases : List Str := ["past", "years", "units", "together", "year", "unit", "few", "many"]
theorem sc_phases : FnScope N_phases ["past"] (defScope s_phases) := ⟨rfl, rfl, rfl, by decide +kernel, rfl, by decide +kernel, by decide +kernel⟩
def spPhases : Sp := fun vs H Q _ => ∃ (p d : Addr) (x y : V) (kvs : DT), vs = [.ref p] ∧ H p = some (.tup [.ref d, x, y]) ∧ H d = some (.dT kvs) ∧ D4 kvs ∧
  ∀ (o : Addr) (ats : List (Addr × List Str)) (U : List Str) (Y : List Int) (H' : Hp), Same H H' → H' o = some (.tup (ats.map fun q => V.ref q.1)) → RowsAt H' ats → Us kvs U → Yrs U (bOf kvs) Y → ats.map (·.2) = keptB U (bOf kvs) (eOf kvs) Y → Q (.ref o) H'
theorem ok_phases {k : Nat} (D : DefAt K mg "phases" s_phases ["past"]) (T : Txt4 mg) (c_units_in : C8.Cal P w K mg base (k + 1) "units_in" spUnitsIn []) (c_is_part_of : C8.Cal P w K mg base (k + 1) "is_part_of" spPart []) : C8.Cal P w K mg base (k + 2) "phases" spPhases [] := by
  obtain ⟨f, fd, F, hg, b⟩ := D.ex
  refine cal_of F hg b sc_phases (fun vs H Q E h => ?_) (fun cdv A outer s H vs Q E hr h => ?_)
  · obtain ⟨p, d, x, y, kvs, rfl, _⟩ := h
    rfl
  · obtain ⟨p, d, x, y, kvs, rfl, hp, hd, dk, q⟩ := h
    have hu := hu_of hr
    refine ⟨_, (pss_cons (ps_set (i := 1) sc_phases.nd rfl (.inr rfl) (pe_ix (show IxR _ (rIxT K) from ix_tup) (pv 0) pe_int (fun _ _ => rfl)))
(pss_cons (ps_set (i := 2) sc_phases.nd rfl (.inl rfl) (C8.pe_c c_units_in hr (by omega) (by rfl) (pa_cons (pv 0) pa_nil)))
(pss_cons (ps_set (i := 3) sc_phases.nd rfl (.inr rfl) (pe_lst pa_nil))
(pss_cons (ps_for PassesOwn.never rfl (pi_list (pe_callB (show CallR _ (.builtin "sorted") (rSortedSet w) from cr_sortedSet rfl) (by rfl) T.sorted (by decide +kernel) (pa_cons (pe_scI (own := [("unit", 5)]) rfl sc_phases.nd (pi_list (pv 2)) (blkOk_by (own := [("unit", 5)]) (N := N_phases) (sc := defScope s_phases) (by decide +kernel)) (fun _ _ _ _ _ => (pg_name (i := 5) sc_phases.nd rfl (.inl rfl))) (fun _ _ _ _ _ => pts_nil) (fun _ _ _ _ _ => pe_dget hu (pv 1) (pe_tup (pa_cons pe_str (pa_cons (pv 5) pa_nil))) (fun _ _ => rfl))) pa_nil))) (pg_name (i := 4) sc_phases.nd rfl (.inr rfl))
    (pss_one (ps_expr (pe_bm PySem.F.plainAttrs_list PySem.F.slot_list_append PySem.F.type_list_append mt_append (pv 3) (pa_cons (pe_callTy (show CallR _ (.type "tuple") (rTupOf K) from call_tupD) (by rfl) T.tuple (by decide +kernel) (pa_cons (pe_lc (own := [("unit", 5)]) rfl sc_phases.nd (pi_list (pv 2)) (blkOk_by (own := [("unit", 5)]) (N := N_phases) (sc := defScope s_phases) (by decide +kernel)) (fun _ _ _ _ _ => (pg_name (i := 5) sc_phases.nd rfl (.inl rfl))) (fun _ _ _ _ _ => pts_one (pt_chain op_le op_le (pe_dget hu (pv 1) (pe_tup (pa_cons pe_str (pa_cons (pv 5) pa_nil))) (fun _ _ => rfl)) (pv 4) (pe_dget hu (pv 1) (pe_tup (pa_cons pe_str (pa_cons (pv 5) pa_nil))) (fun _ _ => rfl)))) (fun _ _ _ _ _ => (pv 5))) pa_nil)) pa_nil)))))
(pss_one (ps_ret (pe_callTy (show CallR _ (.type "tuple") (rTupOf K) from call_tupD) (by rfl) T.tuple (by decide +kernel) (pa_cons (pe_lc (own := [("few", 6)]) rfl sc_phases.nd (pi_list (pv 3)) (blkOk_by (own := [("few", 6)]) (N := N_phases) (sc := defScope s_phases) (by decide +kernel)) (fun _ _ _ _ _ => (pg_name (i := 6) sc_phases.nd rfl (.inr rfl))) (fun _ _ _ _ _ => pts_one (pt_not (pt_val (pe_callB (show CallR _ (.builtin "any") (rAny K) from (cr_any rfl)) (by rfl) T.any (by decide +kernel) (pa_cons (pe_lc (wi := iList K (tVar 3)) (g := gName 7) (tt := tYes) (te := tCall spPart [] C8.E0 (tCons (tVar 6) (tCons (tVar 7) tNil))) (own := [("many", 7)]) rfl sc_phases.nd (pi_list (pv 3)) (blkOk_by (own := [("many", 7)]) (N := N_phases) (sc := { kind := .function, names := [(".0", .local), ("few", .cell), ("any", .globalImplicit), ("together", .cell)], isGenerator := false, isCoroutine := false }) (by decide +kernel)) (fun _ _ _ _ _ => (pg_name (i := 7) sc_phases.nd rfl (.inl rfl))) (fun _ _ _ _ _ => pts_nil) (fun _ _ _ _ _ => (C8.pe_c c_is_part_of hr (by omega) (by rfl) (pa_cons (pv 6) (pa_cons (pv 7) pa_nil))))) pa_nil))))) (fun _ _ _ _ _ => (pv 6))) pa_nil)))))))), ?_⟩
    walk_at "go"
    refine r_ixT (SqT.of hp) (atI_of (j := 0) rfl rfl) ?_
    walk_at "go"
    refine ⟨p, d, x, y, kvs, rfl, hp, hd, dk.d, fun ou U H1 s1 nou hou pu hsu => ?_⟩
    have us : Us kvs U := ⟨pu, hsu⟩
    have lU := us.ln dk.d
    walk_at "go"
    refine ⟨Nat.zero_le _, fun tg ntg => ?_⟩
    have s2 : Same H1 (upd H1 tg (.lst [])) := same_upd ntg
    have htg : upd H1 tg (.lst []) tg = some (.lst []) := upd_same
    generalize upd H1 tg (.lst []) = H2 at s2 htg
    have ntgH : H tg = none := s1.free ntg
    walk_at "go"
    refine r_sc ?_
    walk_at "go"
    refine ⟨ou, rfl, ⟨_, SqL.of (s2 _ _ hou)⟩, fun Ds ns => ?_⟩
    refine sc_it (walk_list (K := K) (a := ou) (xs := U.map V.str)) (fun i H' => Same H2 H' ∧ ∃ (S : Int → Bool) (n : Nat), H' Ds = some (SetO w Ds S n) ∧ n ≤ i ∧ ∀ z : Int, S z = true ↔ ∃ u ∈ U.take i, bOf kvs u = z)
      ⟨same_upd ns, _, 0, upd_same, Nat.le_refl _, fun z => ⟨fun h => (nomatch h), fun h => by
        obtain ⟨u, hu', _⟩ := h
        exact nomatch hu'⟩⟩ (fun i H' _ h => SqL.of (h.1 _ _ (s2 _ _ hou))) (fun i x H3 H4 hi hP hy => ?_) (fun H3 hP => ?_)
    · obtain ⟨rfl, hx⟩ := hy
      obtain ⟨n, hn, rfl⟩ := get_map hx
      obtain ⟨s3, S, m, hS, hm, hmem⟩ := hP
      rw [List.length_map] at hi
      have hnu : n ∈ ukeys kvs := pu.mem_iff.mp (List.mem_of_getElem? hn)
      walk_at "go"
      refine ⟨rfl, ?_⟩
      refine r_yes ?_
      refine r_gk (i := 1) (j := 5) rfl rfl (s3 _ _ (s2 _ _ (s1 _ _ hd))) (yrs_of dk.d hnu).1 fun H5 s5 => ?_
      refine ⟨bOf kvs n, S, m, rfl, s5 _ _ hS, by omega, Same.mut (s3.trans s5) ns, _, _, upd_same, by split <;> omega, fun z => ?_⟩
      rw [Bool.or_eq_true, decide_eq_true_eq, hmem, List.take_add_one, hn]
      constructor
      · rintro (⟨u, h1, h2⟩ | h)
        · exact ⟨u, List.mem_append_left _ h1, h2⟩
        · exact ⟨n, List.mem_append_right _ (.head _), h.symm⟩
      · rintro ⟨u, h1, h2⟩
        rcases List.mem_append.mp h1 with h1 | h1
        · exact .inl ⟨u, h1, h2⟩
        · obtain rfl : u = n := by simpa using h1
          exact .inr h2.symm
    · obtain ⟨s3, S, m, hS, hm, hmem⟩ := hP
      rw [List.length_map] at hm hmem
      rw [List.take_length] at hmem
      walk_at "go"
      refine ⟨Ds, S, m, rfl, hS, by omega, fun Y pY asc memY lenY npY => ?_⟩
      have yr : Yrs U (bOf kvs) Y := ⟨asc, fun y => (memY y).trans (hmem y), by omega⟩
      have s4 : Same H2 (upd H3 pY (.lst (Y.map V.int))) := s3.trans (same_upd npY)
      have hpY : upd H3 pY (.lst (Y.map V.int)) pY = some (.lst (Y.map V.int)) := upd_same
      have hou4 := s4 _ _ (s2 _ _ hou)
      have htg4 := s4 _ _ htg
      have ne1 : pY ≠ tg := fun z => by
        have := s3 _ _ htg
        rw [← z, npY] at this
        cases this
      have s04 : Same H (upd H3 pY (.lst (Y.map V.int))) := (s1.trans s2).trans s4
      generalize upd H3 pY (.lst (Y.map V.int)) = Hs at s4 hpY hou4 htg4 s04
      have ne2 : ou ≠ tg := fun z => by
        rw [z, ntg] at hou
        cases hou
      refine ⟨pY, rfl, ⟨_, SqL.of hpY⟩, ?_⟩
      refine for_list (K := K) (a := pY) (xs := Y.map V.int) (fun i σ H' => ∃ (x4 : Option V) (ats : List (Addr × List Str)), σ = [some (.ref p), some (.ref d), some (.ref ou), some (.ref tg), x4, none, none, none] ∧ (∀ b o, Hs b = some o → b ≠ tg → H' b = some o) ∧ H' tg = some (.lst (ats.map fun q => V.ref q.1)) ∧ RowsAt H' ats ∧
          ats.map (·.2) = (Y.take i).map (rowOfY U (bOf kvs) (eOf kvs)))
        ⟨none, [], rfl, fun b o e _ => e, htg4, fun q hq => (nomatch hq), rfl⟩ (fun i σ H5 _ hW => ?_) (fun i z σ H5 hz hW => ?_) (fun σ H5 hW => ?_)
      · obtain ⟨_, _, _, kp, _⟩ := hW
        exact SqL.of (kp _ _ hpY ne1)
      · obtain ⟨x4, ats, rfl, kp, htg5, ra, rows⟩ := hW
        obtain ⟨yy, hyy, rfl⟩ := get_map hz
        have hou5 := kp _ _ hou4 ne2
        have hd5 := kp _ _ (s04 _ _ hd) (ne_of_none hd ntgH)
        have lats : ats.length ≤ 60 := by
          have e := congrArg List.length rows
          rw [List.length_map, List.length_map, List.length_take] at e
          have := yr.ln
          omega
        walk_at "go"
        refine ⟨tyL htg5, ?_⟩
        walk_at "go"
        refine r_lc ?_
        walk_at "go"
        refine ⟨ou, rfl, ⟨_, SqL.of hou5⟩, fun Dl nl => ?_⟩
        refine lc_it (walk_list (K := K) (a := ou) (xs := U.map V.str)) (LcP H5 Dl U fun u => if rowP (bOf kvs) (eOf kvs) yy u = true then some (V.str u) else none) (LcP.zero nl) (fun i H' _ h => SqL.of (h.1 _ _ hou5)) (fun j x H6 H7 hj hP hy => ?_) (fun H6 hP => ?_)
        · obtain ⟨rfl, hx⟩ := hy
          obtain ⟨n, hn, rfl⟩ := get_map hx
          rw [List.length_map] at hj
          have hnu : n ∈ ukeys kvs := pu.mem_iff.mp (List.mem_of_getElem? hn)
          obtain ⟨vb, ve, _⟩ := yrs_of dk.d hnu
          walk_at "go"
          refine ⟨rfl, ?_⟩
          walk_at "go"
          refine r_gk (i := 1) (j := 5) rfl rfl (hP.1 _ _ hd5) vb fun H8 s8 => ?_
          walk_at "go"
          refine r_ite (fun e1 => ?_) (fun e1 => ?_)
          · walk_at "go"
            refine r_gk (i := 1) (j := 5) rfl rfl (s8 _ _ (hP.1 _ _ hd5)) ve fun H9 s9 => ?_
            walk_at "go"
            refine r_ite (fun e2 => ?_) (fun e2 => ?_)
            · walk_at "go"
              exact hP.yes nl hn (s8.trans s9) (by unfold rowP; rw [e1, e2]; rfl) (by omega)
            · exact hP.no hn (s8.trans s9) (by unfold rowP; rw [e1, e2]; rfl)
          · walk_at "go"
            refine r_ite (fun z => nomatch z) (fun _ => ?_)
            exact hP.no hn s8 (by unfold rowP; rw [e1]; rfl)
        · rw [List.length_map] at hP
          obtain ⟨s6, h6⟩ := hP.all
          rw [fm_if] at h6
          walk_at "go"
          refine ⟨Dl, _, rfl, .inl ⟨SqL.of h6, fun t nt => ?_⟩⟩
          walk_at "go"
          have s7 : Same H5 (upd H6 t (.tup ((U.filter (rowP (bOf kvs) (eOf kvs) yy)).map V.str))) := s6.trans (same_upd nt)
          have ht7 : upd H6 t (.tup ((U.filter (rowP (bOf kvs) (eOf kvs) yy)).map V.str)) t = some (.tup ((rowOfY U (bOf kvs) (eOf kvs) yy).map V.str)) := upd_same
          generalize upd H6 t (.tup ((U.filter (rowP (bOf kvs) (eOf kvs) yy)).map V.str)) = H7 at s7 ht7
          refine r_append (s7 _ _ htg5) (by rw [List.length_map]; omega) ?_
          walk_at "go"
          refine ⟨_, ats ++ [(t, rowOfY U (bOf kvs) (eOf kvs) yy)], rfl, fun b o e hb => by rw [upd_ne hb]; exact s7 _ _ (kp b o e hb), by rw [upd_same, List.map_append]; rfl, fun z hz' => ?_, ?_⟩
          · have key : ∀ {a : Addr} {xs : List V}, H7 a = some (.tup xs) → upd H7 tg (.lst (ats.map (fun q => V.ref q.1) ++ [.ref t])) a = some (.tup xs) := fun {a xs} h => by
              rw [upd_ne (ne_of h (s7 _ _ htg5) (fun z => nomatch z))]
              exact h
            rcases List.mem_append.mp hz' with hz' | hz'
            · exact key (s7 _ _ (ra z hz'))
            · obtain rfl := List.mem_singleton.mp hz'
              exact key ht7
          · rw [List.map_append, rows, List.take_add_one, hyy, List.map_append]
            rfl
      · obtain ⟨x4, ats, rfl, kp, htg5, ra, rows⟩ := hW
        rw [List.take_of_length_le (by rw [List.length_map]; exact Nat.le_refl _)] at rows
        have lats : ats.length ≤ 60 := by
          have e := congrArg List.length rows
          rw [List.length_map, List.length_map] at e
          have := yr.ln
          omega
        have nok : ∀ q ∈ ats, (∀ u ∈ q.2, NOk u) ∧ q.2.length ≤ 100 := fun z hz => by
          have m : z.2 ∈ ats.map (·.2) := List.mem_map.mpr ⟨z, hz, rfl⟩
          rw [rows] at m
          obtain ⟨y, _, e⟩ := List.mem_map.mp m
          rw [← e]
          refine ⟨fun u hu' => dk.us us u (mem_row.mp hu').1, ?_⟩
          have : (rowOfY U (bOf kvs) (eOf kvs) y).length ≤ U.length := List.length_filter_le _ _
          omega
        have s05 : Same H H5 := fun b o e => kp b o (s04 b o e) (ne_of_none e ntgH)
        walk_at "go"
        refine r_lc ?_
        walk_at "go"
        refine ⟨tg, rfl, ⟨_, SqL.of htg5⟩, fun Dl nl => ?_⟩
        refine lc_it (walk_list (K := K) (a := tg) (xs := ats.map fun q => V.ref q.1)) (LcP H5 Dl ats fun q => if keepB partB (ats.map (·.2)) q.2 = true then some (V.ref q.1) else none) (LcP.zero nl) (fun i H' _ h => SqL.of (h.1 _ _ htg5)) (fun j x H6 H7 hj hP hy => ?_) (fun H6 hP => ?_)
        · obtain ⟨rfl, hx⟩ := hy
          obtain ⟨z, hz, rfl⟩ := get_map hx
          have mz := List.mem_of_getElem? hz
          walk_at "go"
          refine ⟨rfl, ?_⟩
          walk_at "go"
          refine r_lc ?_
          walk_at "go"
          refine ⟨tg, rfl, ⟨_, SqL.of (hP.1 _ _ htg5)⟩, fun Di ni => ?_⟩
          refine lc_it (walk_list (K := K) (a := tg) (xs := ats.map fun q => V.ref q.1)) (LcP H7 Di ats fun q => some (V.bl (partB z.2 q.2))) (LcP.zero ni) (fun i H' _ h => SqL.of (h.1 _ _ (hP.1 _ _ htg5))) (fun j2 x2 H8 H9 hj2 hP2 hy2 => ?_) (fun H8 hP2 => ?_)
          · obtain ⟨rfl, hx2⟩ := hy2
            obtain ⟨z2, hz2, rfl⟩ := get_map hx2
            have mz2 := List.mem_of_getElem? hz2
            walk_at "go"
            refine ⟨rfl, ?_⟩
            refine r_yes ?_
            walk_at "go"
            refine ⟨z.1, z2.1, z.2, z2.2, rfl, hP2.1 _ _ (hP.1 _ _ (ra z mz)), hP2.1 _ _ (hP.1 _ _ (ra z2 mz2)), (nok z mz).1, (nok z2 mz2).1, (nok z mz).2, fun Ha sa => ?_⟩
            exact hP2.yes ni hz2 sa rfl (by omega)
          · rw [List.length_map] at hP2
            obtain ⟨s8, h8⟩ := hP2.all
            rw [fm_all] at h8
            walk_at "go"
            refine ⟨Di, ats.map fun q => partB z.2 q.2, rfl, SqL.of (by rw [List.map_map]; exact h8), ?_⟩
            have ek : (!((ats.map fun q => partB z.2 q.2).any id)) = keepB partB (ats.map (·.2)) z.2 := by
              unfold keepB
              rw [List.any_map, List.any_map]
              rfl
            walk_at "go"
            rw [ek]
            refine r_ite (fun e => ?_) (fun e => ?_)
            · walk_at "go"
              exact hP.yes nl hz s8 (by rw [if_pos e]) (by omega)
            · exact hP.no hz s8 (by rw [e]; rfl)
        · rw [List.length_map] at hP
          obtain ⟨s6, h6⟩ := hP.all
          rw [fm_if] at h6
          walk_at "go"
          refine ⟨Dl, _, rfl, .inl ⟨SqL.of h6, fun o no => ?_⟩⟩
          walk_at "go"
          refine q o (ats.filter fun q => keepB partB (ats.map (·.2)) q.2) U Y _ (s05.trans (s6.trans (same_upd no))) upd_same (fun z hz => same_upd no _ _ (s6 _ _ (ra z (List.mem_filter.mp hz).1))) us yr ?_
          unfold keptB
          rw [← rows, List.filter_map]
          rfl
end
end
section
open PySem PySem.Spec PyProof.Rows L2
section
variable {P : Program} {w : World} {K : PySem.W.Frag} {mg : Str → Option Value} {base : Heap}
/-- [p[1] for p in d if p[0] == 'b'] -/
theorem units_read {σ : L2.St} {H : Hp} {i j : Nat} {d : Addr} {kvs : DT} {QV : VK} (hi : (σ.set j none)[i]? = some (some (.ref d))) (hi2 : σ[i]? = some (some (.ref d))) (hj : j < σ.length) (hd : H d = some (.dT kvs)) (dk : DAt kvs)
    (q : ∀ (Dl : Addr) (H' : Hp), Same H H' → H Dl = none → H' Dl = some (.lst ((ukeys kvs).map V.str)) → QV (.ref Dl) H') :
    tLockE (tLc (iKeys (tVar i)) (gName j) (tTest (tOp rEq (tOp (rIxT K) (tVar j) (tC (.int 0))) (tC (.str "b")))) (tOp (rIxT K) (tVar j) (tC (.int 1))) [j]) σ H QV := by
  refine ⟨d, _, hd, trivial, fun od => ?_⟩
  refine ⟨_, hi2, d, od, rfl, .inr ⟨kvs, upd_same, fun Dl nl => ?_⟩⟩
  have nld : d ≠ Dl := ne_of_none (upd_same (H := H) (a := d)) nl
  refine lc_it walk_keysT (fun i H' => Same (upd H d (.frz od (.dT kvs))) H' ∧ H' Dl = some (.lst ((ukeys (kvs.take i)).map V.str))) ⟨same_upd nl, upd_same⟩ (fun i H' _ h => h.1 _ _ upd_same) (fun i x H1 H2 hi hP hy => ?_) (fun H1 hP => ?_)
  · obtain ⟨rfl, k, v, t, hk, rfl, ht⟩ := hy
    obtain ⟨c, n, z, e⟩ := dk.ks _ (List.mem_of_getElem? hk)
    cases e
    have ht' : SqT K H2 t [.str c, .str n] := SqT.of ht
    have at_ : ((wipe σ [j]).set j (some (.ref t)))[j]? = some (some (V.ref t)) := by
      rw [List.getElem?_set_self (by show j < (σ.set j none).length; rw [List.length_set]; exact hj)]
    walk_at "go"
    refine ⟨by show (((σ.set j none).set j (some (V.ref t))).set j none) = σ.set j none; rw [List.set_set, List.set_set], ?_⟩
    walk_at "go"
    refine r_var at_ ?_
    walk_at "go"
    refine r_ixT ht' (atI_of (j := 0) rfl rfl) ?_
    walk_at "go"
    refine ite2 (fun e => ?_) (fun e => ?_)
    · have ec : c = "b" := of_decide_eq_true e
      refine (r_op ?_ : tOp _ _ _ _ _ _)
      refine r_var at_ ?_
      walk_at "go"
      refine r_ixT ht' (atI_of (j := 1) rfl rfl) ?_
      have lu := ukeys_len (kvs.take i)
      have lt : (kvs.take i).length ≤ 60 := by
        rw [List.length_take]
        have := dk.ln
        omega
      refine ⟨_, hP.2, sz_lt (by rw [List.length_map]; omega), Same.mut hP.1 nl, ?_⟩
      rw [upd_same, ukeys_snoc hk, ukey_key, if_pos ec, List.map_append]
      rfl
    · have ec : ¬ c = "b" := fun z => e (decide_eq_true z)
      refine ⟨hP.1, ?_⟩
      rw [ukeys_snoc hk, ukey_key, if_neg ec, hP.2]
      simp
  · obtain ⟨s1, h1⟩ := hP
    rw [List.take_length] at h1
    refine ⟨s1 _ _ upd_same, ?_⟩
    have s2 : Same H (upd H1 d (.dT kvs)) := same_lock hd s1
    have nl0 : H Dl = none := by rw [upd_ne nld.symm] at nl; exact nl
    exact q Dl _ s2 nl0 (by rw [upd_ne nld.symm]; exact h1)
/-- .. sorted -/
theorem units_sort {H : Hp} {Dl : Addr} {kvs : DT} {Q : VK} (dk : DAt kvs) (h : H Dl = some (.lst ((ukeys kvs).map V.str))) (q : ∀ (o : Addr) (U : List Str), H o = none → Us kvs U → Q (.ref o) (upd H o (.lst (U.map V.str)))) : rSortedS K [.ref Dl] H Q :=
  ⟨Dl, ukeys kvs, rfl, SqL.of h, by have := ukeys_len kvs; have := dk.ln; omega, fun ys p hp hs np => q p ys np ⟨hp, hs⟩⟩
theorem wider_eq (one two : List Str) : (decide (two.length > one.length) && decide (((one.filter fun u => decide (u ∈ two)).length : Int) = (one.length : Int))) = widerB one two := by
  unfold widerB
  have e : decide (((one.filter fun u => decide (u ∈ two)).length : Int) = (one.length : Int)) = one.all fun u => decide (u ∈ two) := by
    rw [Bool.eq_iff_iff, decide_eq_true_eq, List.all_eq_true]
    constructor
    · intro h
      exact List.length_filter_eq_length_iff.mp (by omega)
    · intro h
      rw [List.length_filter_eq_length_iff.mpr h]
  rw [e]
/-! ### _law_due -/
abbrev s_due : Stmt := topS 11
abbrev N_due : List Str := ["at", "units", "rows", "y", "told", "one", "wider", "p", "two", "u"]
theorem sc_due : FnScope N_due ["at"] (defScope s_due) := ⟨rfl, rfl, rfl, by decide +kernel, rfl, by decide +kernel, by decide +kernel⟩
def spDue : Sp := fun vs H Q _ => ∃ (d : Addr) (kvs : DT), vs = [.ref d] ∧ H d = some (.dT kvs) ∧ D4 kvs ∧
  ∀ (o : Addr) (ats : List (Addr × List Str)) (U : List Str) (Y : List Int) (H' : Hp), Same H H' → H' o = some (.tup (ats.map fun q => V.ref q.1)) → RowsAt H' ats → Us kvs U → Yrs U (eOf kvs) Y → ats.map (·.2) = keptE U (bOf kvs) (eOf kvs) Y → Q (.ref o) H'
theorem ok_due {k : Nat} (D : DefAt K mg "_law_due" s_due ["at"]) (T : Txt4 mg) : C8.Cal P w K mg base (k + 1) "_law_due" spDue [] := by
  obtain ⟨f, fd, F, hg, b⟩ := D.ex
  refine cal_of F hg b sc_due (fun vs H Q E h => ?_) (fun cdv A outer s H vs Q E hr h => ?_)
  · obtain ⟨d, kvs, rfl, _⟩ := h
    rfl
  · obtain ⟨d, kvs, rfl, hd, dk, q⟩ := h
    have hu := hu_of hr
    refine ⟨_, (pss_cons (ps_set (i := 1) sc_due.nd rfl (.inl rfl) (pe_callB (show CallR _ (.builtin "sorted") (rSortedS K) from cr_sortedS) (by rfl) T.sorted (by decide +kernel) (pa_cons (pe_lock (pe_lc (own := [("p", 7)]) rfl sc_due.nd (pi_keys (pv 0)) (blkOk_by (own := [("p", 7)]) (N := N_due) (sc := defScope s_due) (by decide +kernel)) (fun _ _ _ _ _ => (pg_name (i := 7) sc_due.nd rfl (.inl rfl))) (fun _ _ _ _ _ => pts_one (pt_cmpR op_eq (pe_ix (show IxR _ (rIxT K) from ix_tup) (pv 7) pe_int (fun _ _ => rfl)) pe_str (nomark _))) (fun _ _ _ _ _ => (pe_ix (show IxR _ (rIxT K) from ix_tup) (pv 7) pe_int (fun _ _ => rfl))))) pa_nil)))
(pss_cons (ps_set (i := 2) sc_due.nd rfl (.inl rfl) (pe_lst pa_nil))
(pss_cons (ps_for PassesOwn.never rfl (pi_list (pe_callB (show CallR _ (.builtin "sorted") (rSortedSet w) from cr_sortedSet rfl) (by rfl) T.sorted (by decide +kernel) (pa_cons (pe_callTy (show CallR _ (.type "set") (rSetI K w) from cr_setI rfl) (by rfl) T.set (by decide +kernel) (pa_cons (pe_lc (own := [("u", 9)]) rfl sc_due.nd (pi_list (pv 1)) (blkOk_by (own := [("u", 9)]) (N := N_due) (sc := defScope s_due) (by decide +kernel)) (fun _ _ _ _ _ => (pg_name (i := 9) sc_due.nd rfl (.inl rfl))) (fun _ _ _ _ _ => pts_nil) (fun _ _ _ _ _ => pe_dget hu (pv 0) (pe_tup (pa_cons pe_str (pa_cons (pv 9) pa_nil))) (fun _ _ => rfl))) pa_nil)) pa_nil))) (pg_name (i := 3) sc_due.nd rfl (.inr rfl))
    (pss_one (ps_expr (pe_bm PySem.F.plainAttrs_list PySem.F.slot_list_append PySem.F.type_list_append mt_append (pv 2) (pa_cons (pe_callTy (show CallR _ (.type "tuple") (rTupOf K) from call_tupD) (by rfl) T.tuple (by decide +kernel) (pa_cons (pe_lc (own := [("u", 9)]) rfl sc_due.nd (pi_list (pv 1)) (blkOk_by (own := [("u", 9)]) (N := N_due) (sc := defScope s_due) (by decide +kernel)) (fun _ _ _ _ _ => (pg_name (i := 9) sc_due.nd rfl (.inl rfl))) (fun _ _ _ _ _ => pts_one (pt_chain op_le op_le (pe_dget hu (pv 0) (pe_tup (pa_cons pe_str (pa_cons (pv 9) pa_nil))) (fun _ _ => rfl)) (pv 3) (pe_dget hu (pv 0) (pe_tup (pa_cons pe_str (pa_cons (pv 9) pa_nil))) (fun _ _ => rfl)))) (fun _ _ _ _ _ => (pv 9))) pa_nil)) pa_nil)))))
(pss_cons (ps_set (i := 4) sc_due.nd rfl (.inl rfl) (pe_lst pa_nil))
(pss_cons (ps_for PassesOwn.never rfl (pi_list (pv 2)) (pg_name (i := 5) sc_due.nd rfl (.inr rfl))
    (pss_cons (ps_setLc (i := 6) (own := [("two", 8)]) rfl sc_due.nd rfl rfl (sw_true rfl rfl rfl (by decide +kernel)) (pi_list (pv 2)) (blkOk_by (own := [("two", 8)]) (N := N_due) (sc := defScope s_due) (by decide +kernel)) (fun _ _ _ _ _ => (pg_name (i := 8) sc_due.nd rfl (.inr rfl))) (fun _ _ _ _ _ => pts_one (PW.pt (pw_and (pt_cmpR op_gt (pe_callB (show CallR _ (.builtin "len") (rLenQ K) from call_lenD') (by rfl) T.len PySem.boot_len (pa_cons (pv 8) pa_nil)) (pe_callB (show CallR _ (.builtin "len") (rLenQ K) from call_lenD') (by rfl) T.len PySem.boot_len (pa_cons (pv 5) pa_nil)) (nomark _)) (pw_and1 (pt_cmpR op_eq (pe_callB (show CallR _ (.builtin "len") (rLenQ K) from call_lenD') (by rfl) T.len PySem.boot_len (pa_cons (pe_lc (wi := iTup K (tVar 5)) (g := gName 9) (tt := tTest (tOp (rIn K false) (tVar 9) (tVar 8))) (te := tVar 9) (own := [("u", 9)]) rfl sc_due.nd (pi_tup (pv 5)) (blkOk_by (own := [("u", 9)]) (N := N_due) (sc := { kind := .function, names := [(".0", .local), ("two", .cell), ("len", .globalImplicit), ("one", .cell)], isGenerator := false, isCoroutine := false }) (by decide +kernel)) (fun _ _ _ _ _ => (pg_name (i := 9) sc_due.nd rfl (.inl rfl))) (fun _ _ _ _ _ => pts_one (pt_cmpR (show OpR _ (compareOp .In) (rIn K false) from op_in_seq) (pv 9) (pv 8) (by with_unfolding_all rfl))) (fun _ _ _ _ _ => (pv 9))) pa_nil)) (pe_callB (show CallR _ (.builtin "len") (rLenQ K) from call_lenD') (by rfl) T.len PySem.boot_len (pa_cons (pv 5) pa_nil)) (nomark _)))))) (fun _ _ _ _ _ => (pv 8)))
    (pss_one (ps_if (pt_cmpR op_eq (pe_callB (show CallR _ (.builtin "len") (rLenQ K) from call_lenD') (by rfl) T.len PySem.boot_len (pa_cons (pv 6) pa_nil)) pe_int (nomark _))
        (pss_one (ps_expr (pe_bm PySem.F.plainAttrs_list PySem.F.slot_list_append PySem.F.type_list_append mt_append (pv 4) (pa_cons (pv 5) pa_nil))))
      pss_nil))))
(pss_one (ps_ret (pe_callTy (show CallR _ (.type "tuple") (rTupOf K) from call_tupD) (by rfl) T.tuple (by decide +kernel) (pa_cons (pv 4) pa_nil))))))))), ?_⟩
    walk_at "go"
    refine units_read (i := 0) (j := 7) rfl rfl (show (7 : Nat) < 10 by decide) hd dk.d fun Dl H1 s1 nDl hDl => ?_
    walk_at "go"
    refine units_sort dk.d hDl fun ou U nou us => ?_
    have lU := us.ln dk.d
    have s2 : Same H (upd H1 ou (.lst (U.map V.str))) := s1.trans (same_upd nou)
    have hou : upd H1 ou (.lst (U.map V.str)) ou = some (.lst (U.map V.str)) := upd_same
    generalize upd H1 ou (.lst (U.map V.str)) = H2 at s2 hou
    walk_at "go"
    refine ⟨Nat.zero_le _, fun rg nrg => ?_⟩
    have s3 : Same H2 (upd H2 rg (.lst [])) := same_upd nrg
    have hrg : upd H2 rg (.lst []) rg = some (.lst []) := upd_same
    generalize upd H2 rg (.lst []) = H3 at s3 hrg
    have nrgH : H rg = none := s2.free nrg
    have ne2 : ou ≠ rg := ne_of_none hou nrg
    walk_at "go"
    refine r_lc ?_
    walk_at "go"
    refine ⟨ou, rfl, ⟨_, SqL.of (s3 _ _ hou)⟩, fun De ne => ?_⟩
    refine lc_it (walk_list (K := K) (a := ou) (xs := U.map V.str)) (LcP H3 De U fun u => some (V.int (eOf kvs u))) (LcP.zero ne) (fun i H' _ h => SqL.of (h.1 _ _ (s3 _ _ hou))) (fun i x H4 H5 hi hP hy => ?_) (fun H4 hP => ?_)
    · obtain ⟨rfl, hx⟩ := hy
      obtain ⟨n, hn, rfl⟩ := get_map hx
      have hnu : n ∈ ukeys kvs := us.pm.mem_iff.mp (List.mem_of_getElem? hn)
      walk_at "go"
      refine ⟨rfl, ?_⟩
      refine r_yes ?_
      refine r_gk (i := 0) (j := 9) rfl rfl (hP.1 _ _ (s3 _ _ (s2 _ _ hd))) (yrs_of dk.d hnu).2.1 fun H6 s6 => ?_
      exact hP.yes ne hn s6 rfl (by omega)
    · rw [List.length_map] at hP
      obtain ⟨s4, h4⟩ := hP.all
      rw [fm_all] at h4
      walk_at "go"
      refine ⟨De, U.map (eOf kvs), rfl, SqL.of (by rw [List.map_map]; exact h4), by rw [List.length_map]; omega, fun Ds c nDs hc => ?_⟩
      rw [List.length_map] at hc
      walk_at "go"
      refine ⟨Ds, _, c, rfl, upd_same, by omega, fun Y pY asc memY lenY npY => ?_⟩
      have yr : Yrs U (eOf kvs) Y := ⟨asc, fun y => (memY y).trans (by rw [decide_eq_true_eq, List.mem_map]), by omega⟩
      have s5 : Same H3 (upd (upd H4 Ds (SetO w Ds (fun j => decide (j ∈ U.map (eOf kvs))) c)) pY (.lst (Y.map V.int))) := (s4.trans (same_upd nDs)).trans (same_upd npY)
      have hpY : upd (upd H4 Ds (SetO w Ds (fun j => decide (j ∈ U.map (eOf kvs))) c)) pY (.lst (Y.map V.int)) pY = some (.lst (Y.map V.int)) := upd_same
      have hou4 := s5 _ _ (s3 _ _ hou)
      have hrg4 := s5 _ _ hrg
      have ne1 : pY ≠ rg := fun z => by
        have := (s4.trans (same_upd (o := SetO w Ds (fun j => decide (j ∈ U.map (eOf kvs))) c) nDs)) _ _ hrg
        rw [← z, npY] at this
        cases this
      have s04 : Same H (upd (upd H4 Ds (SetO w Ds (fun j => decide (j ∈ U.map (eOf kvs))) c)) pY (.lst (Y.map V.int))) := (s2.trans s3).trans s5
      generalize upd (upd H4 Ds (SetO w Ds (fun j => decide (j ∈ U.map (eOf kvs))) c)) pY (.lst (Y.map V.int)) = Hs at s5 hpY hou4 hrg4 s04
      refine ⟨pY, rfl, ⟨_, SqL.of hpY⟩, ?_⟩
      refine for_list (K := K) (a := pY) (xs := Y.map V.int) (fun i σ H' => ∃ (x3 : Option V) (ats : List (Addr × List Str)), σ = [some (.ref d), some (.ref ou), some (.ref rg), x3, none, none, none, none, none, none] ∧ (∀ b o, Hs b = some o → b ≠ rg → H' b = some o) ∧ H' rg = some (.lst (ats.map fun q => V.ref q.1)) ∧ RowsAt H' ats ∧
          ats.map (·.2) = (Y.take i).map (rowOfY U (bOf kvs) (eOf kvs)))
        ⟨none, [], rfl, fun b o e _ => e, hrg4, fun q hq => (nomatch hq), rfl⟩ (fun i σ H5 _ hW => ?_) (fun i z σ H5 hz hW => ?_) (fun σ H5 hW => ?_)
      · obtain ⟨_, _, _, kp, _⟩ := hW
        exact SqL.of (kp _ _ hpY ne1)
      · obtain ⟨x3, ats, rfl, kp, hrg5, ra, rows⟩ := hW
        obtain ⟨yy, hyy, rfl⟩ := get_map hz
        have hou5 := kp _ _ hou4 ne2
        have hd5 := kp _ _ (s04 _ _ hd) (ne_of_none hd nrgH)
        have lats : ats.length ≤ 60 := by
          have e := congrArg List.length rows
          rw [List.length_map, List.length_map, List.length_take] at e
          have := yr.ln
          omega
        walk_at "go"
        refine ⟨tyL hrg5, ?_⟩
        walk_at "go"
        refine r_lc ?_
        walk_at "go"
        refine ⟨ou, rfl, ⟨_, SqL.of hou5⟩, fun Dl nl => ?_⟩
        refine lc_it (walk_list (K := K) (a := ou) (xs := U.map V.str)) (LcP H5 Dl U fun u => if rowP (bOf kvs) (eOf kvs) yy u = true then some (V.str u) else none) (LcP.zero nl) (fun i H' _ h => SqL.of (h.1 _ _ hou5)) (fun j x H6 H7 hj hP hy => ?_) (fun H6 hP => ?_)
        · obtain ⟨rfl, hx⟩ := hy
          obtain ⟨n, hn, rfl⟩ := get_map hx
          rw [List.length_map] at hj
          have hnu : n ∈ ukeys kvs := us.pm.mem_iff.mp (List.mem_of_getElem? hn)
          obtain ⟨vb, ve, _⟩ := yrs_of dk.d hnu
          walk_at "go"
          refine ⟨rfl, ?_⟩
          walk_at "go"
          refine r_gk (i := 0) (j := 9) rfl rfl (hP.1 _ _ hd5) vb fun H8 s8 => ?_
          walk_at "go"
          refine r_ite (fun e1 => ?_) (fun e1 => ?_)
          · walk_at "go"
            refine r_gk (i := 0) (j := 9) rfl rfl (s8 _ _ (hP.1 _ _ hd5)) ve fun H9 s9 => ?_
            walk_at "go"
            refine r_ite (fun e2 => ?_) (fun e2 => ?_)
            · walk_at "go"
              exact hP.yes nl hn (s8.trans s9) (by unfold rowP; rw [e1, e2]; rfl) (by omega)
            · exact hP.no hn (s8.trans s9) (by unfold rowP; rw [e1, e2]; rfl)
          · walk_at "go"
            refine r_ite (fun z => nomatch z) (fun _ => ?_)
            exact hP.no hn s8 (by unfold rowP; rw [e1]; rfl)
        · rw [List.length_map] at hP
          obtain ⟨s6, h6⟩ := hP.all
          rw [fm_if] at h6
          walk_at "go"
          refine ⟨Dl, _, rfl, .inl ⟨SqL.of h6, fun t nt => ?_⟩⟩
          walk_at "go"
          have s7 : Same H5 (upd H6 t (.tup ((U.filter (rowP (bOf kvs) (eOf kvs) yy)).map V.str))) := s6.trans (same_upd nt)
          have ht7 : upd H6 t (.tup ((U.filter (rowP (bOf kvs) (eOf kvs) yy)).map V.str)) t = some (.tup ((rowOfY U (bOf kvs) (eOf kvs) yy).map V.str)) := upd_same
          generalize upd H6 t (.tup ((U.filter (rowP (bOf kvs) (eOf kvs) yy)).map V.str)) = H7 at s7 ht7
          refine r_append (s7 _ _ hrg5) (by rw [List.length_map]; omega) ?_
          walk_at "go"
          refine ⟨_, ats ++ [(t, rowOfY U (bOf kvs) (eOf kvs) yy)], rfl, fun b o e hb => by rw [upd_ne hb]; exact s7 _ _ (kp b o e hb), by rw [upd_same, List.map_append]; rfl, fun z hz' => ?_, ?_⟩
          · have key : ∀ {a : Addr} {xs : List V}, H7 a = some (.tup xs) → upd H7 rg (.lst (ats.map (fun q => V.ref q.1) ++ [.ref t])) a = some (.tup xs) := fun {a xs} h => by
              rw [upd_ne (ne_of h (s7 _ _ hrg5) (fun z => nomatch z))]
              exact h
            rcases List.mem_append.mp hz' with hz' | hz'
            · exact key (s7 _ _ (ra z hz'))
            · obtain rfl := List.mem_singleton.mp hz'
              exact key ht7
          · rw [List.map_append, rows, List.take_add_one, hyy, List.map_append]
            rfl
      · obtain ⟨x3, ats, rfl, kp, hrg5, ra, rows⟩ := hW
        rw [List.take_of_length_le (by rw [List.length_map]; exact Nat.le_refl _)] at rows
        have lats : ats.length ≤ 60 := by
          have e := congrArg List.length rows
          rw [List.length_map, List.length_map] at e
          have := yr.ln
          omega
        have few : ∀ q ∈ ats, q.2.length ≤ 60 := fun z hz => by
          have m : z.2 ∈ ats.map (·.2) := List.mem_map.mpr ⟨z, hz, rfl⟩
          rw [rows] at m
          obtain ⟨y, _, e⟩ := List.mem_map.mp m
          rw [← e]
          have : (rowOfY U (bOf kvs) (eOf kvs) y).length ≤ U.length := List.length_filter_le _ _
          omega
        have s05 : Same H H5 := fun b o e => kp b o (s04 b o e) (ne_of_none e nrgH)
        walk_at "go"
        refine ⟨Nat.zero_le _, fun tg ntg => ?_⟩
        have s6 : Same H5 (upd H5 tg (.lst [])) := same_upd ntg
        have htg : upd H5 tg (.lst []) tg = some (.lst []) := upd_same
        generalize upd H5 tg (.lst []) = H6 at s6 htg
        have hrg6 := s6 _ _ hrg5
        have nrt : rg ≠ tg := ne_of_none hrg5 ntg
        walk_at "go"
        refine ⟨rg, rfl, ⟨_, SqL.of hrg6⟩, ?_⟩
        refine for_list (K := K) (a := rg) (xs := ats.map fun q => V.ref q.1) (fun i σ H' => ∃ (x5 x6 : Option V), σ = [some (.ref d), some (.ref ou), some (.ref rg), x3, some (.ref tg), x5, x6, none, none, none] ∧ (∀ b o, H6 b = some o → b ≠ tg → H' b = some o) ∧
            H' tg = some (.lst (((ats.take i).filter fun q => keepB widerB (ats.map (·.2)) q.2).map fun q => V.ref q.1)))
          ⟨none, none, rfl, fun b o e _ => e, htg⟩ (fun i σ H7 _ hW => ?_) (fun i zz σ H7 hz hW => ?_) (fun σ H7 hW => ?_)
        · obtain ⟨_, _, _, kp7, _⟩ := hW
          exact SqL.of (kp7 _ _ hrg6 nrt)
        · obtain ⟨x5, x6, rfl, kp7, htg7⟩ := hW
          obtain ⟨z, hzz, rfl⟩ := get_map hz
          have mz := List.mem_of_getElem? hzz
          have hrg7 := kp7 _ _ hrg6 nrt
          have ra7 : RowsAt H7 ats := fun q hq => kp7 _ _ (s6 _ _ (ra q hq)) (ne_of (s6 _ _ (ra q hq)) htg (fun z => nomatch z))
          walk_at "go"
          refine r_lc ?_
          walk_at "go"
          refine ⟨rg, rfl, ⟨_, SqL.of hrg7⟩, fun Dw nw => ?_⟩
          refine lc_it (walk_list (K := K) (a := rg) (xs := ats.map fun q => V.ref q.1)) (LcP H7 Dw ats fun q => if widerB z.2 q.2 = true then some (V.ref q.1) else none) (LcP.zero nw) (fun i H' _ h => SqL.of (h.1 _ _ hrg7)) (fun j x H8 H9 hj hP hy => ?_) (fun H8 hP => ?_)
          · obtain ⟨rfl, hx⟩ := hy
            obtain ⟨z2, hz2, rfl⟩ := get_map hx
            have mz2 := List.mem_of_getElem? hz2
            have h1 := hP.1 _ _ (ra7 z mz)
            have h2 := hP.1 _ _ (ra7 z2 mz2)
            have f1 := few z mz
            walk_at "go"
            refine ⟨rfl, ?_⟩
            walk_at "go"
            refine r_lenT (SqT.of h2) ?_
            walk_at "go"
            refine r_lenT (SqT.of h1) ?_
            walk_at "go"
            rw [List.length_map, List.length_map]
            refine r_ite (fun e1 => ?_) (fun e1 => ?_)
            · refine (show tTest _ _ _ _ from ?_)
              walk_at "go"
              refine r_lc ?_
              walk_at "go"
              refine ⟨z.1, rfl, ⟨_, SqT.of h1⟩, fun Di ni => ?_⟩
              refine lc_it (walk_tup (xs := z.2.map V.str)) (LcP H9 Di z.2 fun u => if decide (u ∈ z2.2) = true then some (V.str u) else none) (LcP.zero ni) (fun i H' _ h => SqT.of (h.1 _ _ h1)) (fun j2 x2 Ha Hb hj2 hP2 hy2 => ?_) (fun Ha hP2 => ?_)
              · obtain ⟨rfl, hx2⟩ := hy2
                obtain ⟨u, hu2, rfl⟩ := get_map hx2
                walk_at "go"
                refine ⟨rfl, ?_⟩
                walk_at "go"
                refine r_inT (SqT.of (hP2.1 _ _ h2)) rfl (flat_strs _) ?_
                rw [if_neg Bool.false_ne_true, inV_dec]
                walk_at "go"
                refine r_ite (fun e => ?_) (fun e => ?_)
                · walk_at "go"
                  exact hP2.yes ni hu2 (Same.refl _) (by rw [if_pos e]) (by omega)
                · exact hP2.no hu2 (Same.refl _) (by rw [e]; rfl)
              · rw [List.length_map] at hP2
                obtain ⟨sa, ha⟩ := hP2.all
                rw [fm_if] at ha
                walk_at "go"
                refine r_lenL (SqL.of ha) ?_
                walk_at "go"
                refine r_lenT (SqT.of (sa _ _ h1)) ?_
                walk_at "go"
                rw [List.length_map, List.length_map]
                have ew := wider_eq z.2 z2.2
                have e1' : decide (z2.2.length > z.2.length) = true := by
                  have := of_decide_eq_true e1
                  exact decide_eq_true (by omega)
                rw [e1', Bool.true_and] at ew
                rw [ew]
                refine r_ite (fun e => ?_) (fun e => ?_)
                · walk_at "go"
                  exact hP.yes nw hz2 sa (by rw [if_pos e]) (by omega)
                · exact hP.no hz2 sa (by rw [e]; rfl)
            · refine r_ite (fun z => nomatch z) (fun _ => ?_)
              refine hP.no hz2 (Same.refl _) ?_
              have e : widerB z.2 z2.2 = false := by
                rw [← wider_eq]
                have := of_decide_eq_false e1
                rw [show decide (z2.2.length > z.2.length) = false from decide_eq_false (by omega)]
                rfl
              rw [e]
              rfl
          · rw [List.length_map] at hP
            obtain ⟨s8, h8⟩ := hP.all
            rw [fm_if] at h8
            walk_at "go"
            refine r_lenL (SqL.of h8) ?_
            walk_at "go"
            have ek : decide (((((ats.filter fun q => widerB z.2 q.2).map fun q => V.ref q.1).length : Nat) : Int) = 0) = keepB widerB (ats.map (·.2)) z.2 := by
              rw [Bool.eq_iff_iff, decide_eq_true_eq, keepB_iff, List.length_map]
              constructor
              · intro h y hy
                obtain ⟨q, hq, rfl⟩ := List.mem_map.mp hy
                refine Bool.eq_false_iff.mpr fun e => ?_
                have m : q ∈ ats.filter fun q => widerB z.2 q.2 := List.mem_filter.mpr ⟨hq, e⟩
                have := List.length_pos_of_mem m
                omega
              · intro h
                have e : (ats.filter fun q => widerB z.2 q.2) = [] := List.filter_eq_nil_iff.mpr fun q hq => by
                  rw [h _ (List.mem_map.mpr ⟨q, hq, rfl⟩)]
                  exact Bool.false_ne_true
                rw [e]
                rfl
            rw [ek]
            have tk : (ats.take (i + 1)).filter (fun q => keepB widerB (ats.map (·.2)) q.2) = (ats.take i).filter (fun q => keepB widerB (ats.map (·.2)) q.2) ++ (if keepB widerB (ats.map (·.2)) z.2 = true then [z] else []) := by
              rw [List.take_add_one, hzz, List.filter_append]
              congr 1
              show List.filter _ [z] = _
              rw [List.filter_cons]
              rfl
            have l7 : ((ats.take i).filter fun q => keepB widerB (ats.map (·.2)) q.2).length ≤ 60 := Nat.le_trans (List.length_filter_le _ _) (by rw [List.length_take]; omega)
            refine r_ite (fun e => ?_) (fun e => ?_)
            · walk_at "go"
              refine ⟨tyL (s8 _ _ htg7), ?_⟩
              walk_at "go"
              refine r_append (s8 _ _ htg7) (by rw [List.length_map]; omega) ?_
              walk_at "go"
              refine ⟨_, _, rfl, fun b o e hb => by rw [upd_ne hb]; exact s8 _ _ (kp7 b o e hb), ?_⟩
              rw [upd_same, tk, if_pos e, List.map_append]
              rfl
            · walk_at "go"
              refine ⟨_, _, rfl, fun b o e hb => s8 _ _ (kp7 b o e hb), ?_⟩
              rw [s8 _ _ htg7, tk, e]
              simp
        · obtain ⟨x5, x6, rfl, kp7, htg7⟩ := hW
          rw [List.length_map, List.take_length] at htg7
          walk_at "go"
          refine ⟨tg, _, rfl, .inl ⟨SqL.of htg7, fun o no => ?_⟩⟩
          walk_at "go"
          have s57 : Same H5 H7 := fun b o e => kp7 b o (s6 b o e) (ne_of_none e ntg)
          refine q o (ats.filter fun q => keepB widerB (ats.map (·.2)) q.2) U Y _ (s05.trans (s57.trans (same_upd no))) upd_same (fun z hz => same_upd no _ _ (s57 _ _ (ra z (List.mem_filter.mp hz).1))) us yr ?_
          unfold keptE
          rw [← rows, List.filter_map]
          rfl
end
end
section
open PySem PySem.Spec PyProof.Rows L2
/-! ### a run of numbers -/
theorem asc_eq : ∀ {l m : List Nat}, l.Pairwise (· < ·) → m.Pairwise (· < ·) → (∀ x, x ∈ l ↔ x ∈ m) → l = m
  | [], [], _, _, _ => rfl
  | [], y :: m, _, _, h => nomatch (h y).mpr (.head _)
  | x :: l, [], _, _, h => nomatch (h x).mp (.head _)
  | x :: l, y :: m, hl, hm, h => by
    obtain ⟨l1, l2⟩ := List.pairwise_cons.mp hl
    obtain ⟨m1, m2⟩ := List.pairwise_cons.mp hm
    have e1 : x = y := by
      rcases List.mem_cons.mp ((h x).mp (.head _)) with q | q
      · exact q
      · rcases List.mem_cons.mp ((h y).mpr (.head _)) with q2 | q2
        · exact q2.symm
        · have := l1 y q2
          have := m1 x q
          omega
    subst e1
    rw [asc_eq l2 m2 fun z => ⟨fun q => ?_, fun q => ?_⟩]
    · rcases List.mem_cons.mp ((h z).mp (.tail _ q)) with q2 | q2
      · have := l1 z q
        omega
      · exact q2
    · rcases List.mem_cons.mp ((h z).mpr (.tail _ q)) with q2 | q2
      · have := m1 z q
        omega
      · exact q2
theorem conv_run {n : Nat} {p : Nat → Bool} (conv : ∀ i j k, i < j → j < k → k < n → p i = true → p k = true → p j = true) (ne : ∃ i, i < n ∧ p i = true) : ∃ a c : Nat, (List.range n).filter p = List.range' a (c + 1) := by
  have asc : ((List.range n).filter p).Pairwise (· < ·) := List.pairwise_lt_range.filter _
  have mem : ∀ i, i ∈ (List.range n).filter p ↔ i < n ∧ p i = true := fun i => by rw [List.mem_filter, List.mem_range]
  generalize (List.range n).filter p = W at asc mem
  obtain ⟨i0, h0⟩ := ne
  have pos : 0 < W.length := List.length_pos_of_mem ((mem i0).mpr h0)
  have lo : ∀ i ∈ W, W[0] ≤ i := fun i hi => by
    obtain ⟨k, hk, rfl⟩ := List.getElem_of_mem hi
    by_cases e : k = 0
    · subst e
      exact Nat.le_refl _
    · exact Nat.le_of_lt (List.pairwise_iff_getElem.mp asc 0 k pos hk (by omega))
  have hi : ∀ i ∈ W, i ≤ W[W.length - 1] := fun i hi => by
    obtain ⟨k, hk, rfl⟩ := List.getElem_of_mem hi
    by_cases e : k = W.length - 1
    · subst e
      exact Nat.le_refl _
    · exact Nat.le_of_lt (List.pairwise_iff_getElem.mp asc k (W.length - 1) hk (by omega) (by omega))
  have m0 := (mem _).mp (List.getElem_mem pos)
  have m1 := (mem _).mp (List.getElem_mem (show W.length - 1 < W.length by omega))
  have le := lo _ (List.getElem_mem (show W.length - 1 < W.length by omega))
  refine ⟨W[0], W[W.length - 1] - W[0], asc_eq asc List.pairwise_lt_range' fun i => ?_⟩
  rw [List.mem_range'_1]
  constructor
  · intro h
    have := lo i h
    have := hi i h
    omega
  · intro h
    by_cases e1 : i = W[0]
    · rw [e1]
      exact List.getElem_mem pos
    · by_cases e2 : i = W[W.length - 1]
      · rw [e2]
        exact List.getElem_mem (show W.length - 1 < W.length by omega)
      · exact (mem i).mpr ⟨by omega, conv W[0] i W[W.length - 1] (by omega) (by omega) m1.1 m0.2 m1.2⟩
/-- the i-th row -/
def rowI (ats : List (Addr × List Str)) (i : Nat) : List Str := match ats[i]? with
  | some q => q.2
  | none => []
theorem rowI_of {ats : List (Addr × List Str)} {i : Nat} {q : Addr × List Str} (h : ats[i]? = some q) : rowI ats i = q.2 := by
  unfold rowI
  rw [h]
theorem r_neB {H : Hp} {Q : VK} {a b : Bool} (h : Q (.bl (!decide (a = b))) H) : rNe (.bl a) (.bl b) H Q := ⟨rfl, by
  have e : decide (V.bl a = V.bl b) = decide (a = b) := by
    rw [Bool.eq_iff_iff]
    simp
  rw [e]
  exact h⟩
section
variable {ats : List (Addr × List Str)} {U : List Str} {b e : Str → Int} {Y : List Int}
theorem rows_conv (hr : ats.map (·.2) = keptB U b e Y) (hY : Yrs U b Y) (u : Str) : ∀ i j k, i < j → j < k → k < ats.length → decide (u ∈ rowI ats i) = true → decide (u ∈ rowI ats k) = true → decide (u ∈ rowI ats j) = true := by
  obtain ⟨Z, hz, asc, _⟩ := kept_years hY
  have hz := hr.trans hz
  have len : ats.length = Z.length := by
    have := congrArg List.length hz
    rw [List.length_map, List.length_map] at this
    exact this
  have at_ : ∀ i (hi : i < ats.length), rowI ats i = rowOfY U b e (Z[i]'(by omega)) := fun i hi => by
    have h := congrArg (fun l => l[i]?) hz
    rw [List.getElem?_map, List.getElem?_map, List.getElem?_eq_getElem hi, List.getElem?_eq_getElem (by omega)] at h
    rw [rowI_of (List.getElem?_eq_getElem hi)]
    exact Option.some.inj h
  intro i j k hij hjk hk h1 h2
  have h1 := of_decide_eq_true h1
  have h2 := of_decide_eq_true h2
  rw [at_ i (by omega)] at h1
  rw [at_ k hk] at h2
  refine decide_eq_true ?_
  rw [at_ j (by omega)]
  obtain ⟨a1, a2, a3⟩ := mem_row.mp h1
  obtain ⟨c1, c2, c3⟩ := mem_row.mp h2
  have g1 := List.pairwise_iff_getElem.mp asc i j (by omega) (by omega) hij
  have g2 := List.pairwise_iff_getElem.mp asc j k (by omega) (by omega) hjk
  exact mem_row.mpr ⟨a1, by omega, by omega⟩
theorem rows_mem {M : List Str} (h : M ∈ ats.map (·.2)) : ∃ i, i < ats.length ∧ rowI ats i = M := by
  obtain ⟨q, hq, rfl⟩ := List.mem_map.mp h
  obtain ⟨i, hi, rfl⟩ := List.getElem_of_mem hq
  exact ⟨i, hi, rowI_of (List.getElem?_eq_getElem hi)⟩
theorem rows_has (hr : ats.map (·.2) = keptB U b e Y) (hbe : ∀ u ∈ U, b u ≤ e u) (hY : Yrs U b Y) {u v : Str} (hu : u ∈ U) (hv : v ∈ U) : (b u ≤ e v ∧ b v ≤ e u) ↔ ∃ i, i < ats.length ∧ u ∈ rowI ats i ∧ v ∈ rowI ats i := by
  constructor
  · intro h
    obtain ⟨y, h1, h2⟩ := meet_row hbe hu hv h
    obtain ⟨M, hM, m1, m2⟩ := kept_has hbe hY h1 h2
    rw [← hr] at hM
    obtain ⟨i, hi, rfl⟩ := rows_mem hM
    exact ⟨i, hi, m1, m2⟩
  · rintro ⟨i, hi, m1, m2⟩
    obtain ⟨Z, hz, _, _⟩ := kept_years hY
    have hq : ats[i].2 ∈ ats.map (·.2) := List.mem_map.mpr ⟨_, List.getElem_mem hi, rfl⟩
    rw [hr, hz] at hq
    obtain ⟨y, _, ey⟩ := List.mem_map.mp hq
    rw [rowI_of (List.getElem?_eq_getElem hi), ← ey] at m1 m2
    exact together m1 m2
end
section
variable {P : Program} {w : World} {K : PySem.W.Frag} {mg : Str → Option Value} {base : Heap}
/-- at['b', u] <= at['e', v] and at['b', v] <= at['e', u] -/
theorem r_meet {σ : L2.St} {H : Hp} {i ju jv : Nat} {d : Addr} {kvs : DT} {u v : Str} {Q : VK} {b1 e1 b2 e2 : Int} (hi : σ[i]? = some (some (.ref d))) (hu : σ[ju]? = some (some (.str u))) (hv : σ[jv]? = some (some (.str v))) (hd : H d = some (.dT kvs))
    (h1 : valV kvs (key "b" u) = some (.int b1)) (h2 : valV kvs (key "e" u) = some (.int e1)) (h3 : valV kvs (key "b" v) = some (.int b2)) (h4 : valV kvs (key "e" v) = some (.int e2)) (q : ∀ H', Same H H' → Q (.bl (decide (b1 ≤ e2) && decide (b2 ≤ e1))) H') :
    tAndV (tOp (rI0 fun i j => V.bl (decide (i ≤ j))) (tDGet (tVar i) (tTup (tCons (tC (.str "b")) (tCons (tVar ju) tNil)))) (tDGet (tVar i) (tTup (tCons (tC (.str "e")) (tCons (tVar jv) tNil)))))
      (tOp (rI0 fun i j => V.bl (decide (i ≤ j))) (tDGet (tVar i) (tTup (tCons (tC (.str "b")) (tCons (tVar jv) tNil)))) (tDGet (tVar i) (tTup (tCons (tC (.str "e")) (tCons (tVar ju) tNil))))) σ H Q := by
  refine r_andV (r_op (r_gk hi hu hd h1 fun H1 s1 => r_gk hi hv (s1 _ _ hd) h4 fun H2 s2 => r_I0 ⟨_, rfl, ?_⟩))
  have s02 := s1.trans s2
  refine r_ite (fun e => ?_) (fun e => ?_)
  · refine r_op (r_gk hi hv (s02 _ _ hd) h3 fun H3 s3 => r_gk hi hu (s3 _ _ (s02 _ _ hd)) h2 fun H4 s4 => r_I0 ?_)
    have z := q H4 ((s02.trans s3).trans s4)
    rw [e, Bool.true_and] at z
    exact z
  · have z := q H2 s02
    rw [e, Bool.false_and] at z
    exact z
/-! ### _law_side_by_side -/
abbrev s_side_by_side : Stmt := topS 12
abbrev N_side_by_side : List Str := ["told", "at", "units", "u", "where", "v", "together", "p", "i"]
theorem sc_side_by_side : FnScope N_side_by_side ["told", "at"] (defScope s_side_by_side) := ⟨rfl, rfl, rfl, by decide +kernel, rfl, by decide +kernel, by decide +kernel⟩
def spSide : Sp := fun vs H Q _ => ∃ (o d : Addr) (kvs : DT) (ats : List (Addr × List Str)) (U : List Str) (Y : List Int), vs = [.ref o, .ref d] ∧ H o = some (.tup (ats.map fun q => V.ref q.1)) ∧ RowsAt H ats ∧ H d = some (.dT kvs) ∧ D4 kvs ∧ Us kvs U ∧ Yrs U (bOf kvs) Y ∧ ats.map (·.2) = keptB U (bOf kvs) (eOf kvs) Y ∧
  ∀ (H' : Hp), Same H H' → Q (.bl true) H'
theorem ok_side {k : Nat} (D : DefAt K mg "_law_side_by_side" s_side_by_side ["told", "at"]) (T : Txt4 mg) : C8.Cal P w K mg base (k + 1) "_law_side_by_side" spSide [] := by
  obtain ⟨f, fd, F, hg, b⟩ := D.ex
  refine cal_of F hg b sc_side_by_side (fun vs H Q E h => ?_) (fun cdv A outer s H vs Q E hr h => ?_)
  · obtain ⟨o, d, kvs, ats, U, Y, rfl, _⟩ := h
    rfl
  · obtain ⟨o, d, kvs, ats, U, Y, rfl, ho, ra, hd, dk, us, yr, rows, q⟩ := h
    have hu := hu_of hr
    refine ⟨_, (pss_cons (ps_set (i := 2) sc_side_by_side.nd rfl (.inl rfl) (pe_callB (show CallR _ (.builtin "sorted") (rSortedS K) from cr_sortedS) (by rfl) T.sorted (by decide +kernel) (pa_cons (pe_lock (pe_lc (own := [("p", 7)]) rfl sc_side_by_side.nd (pi_keys (pv 1)) (blkOk_by (own := [("p", 7)]) (N := N_side_by_side) (sc := defScope s_side_by_side) (by decide +kernel)) (fun _ _ _ _ _ => (pg_name (i := 7) sc_side_by_side.nd rfl (.inl rfl))) (fun _ _ _ _ _ => pts_one (pt_cmpR op_eq (pe_ix (show IxR _ (rIxT K) from ix_tup) (pv 7) pe_int (fun _ _ => rfl)) pe_str (nomark _))) (fun _ _ _ _ _ => (pe_ix (show IxR _ (rIxT K) from ix_tup) (pv 7) pe_int (fun _ _ => rfl))))) pa_nil)))
(pss_cons (ps_for PassesOwn.never rfl (pi_list (pv 2)) (pg_name (i := 3) sc_side_by_side.nd rfl (.inr rfl))
    (pss_cons (ps_setLc (i := 4) (own := [("i", 8)]) rfl sc_side_by_side.nd rfl rfl (sw_true rfl rfl rfl (by decide +kernel)) (pi_range1 rfl T.range (pa_cons (pe_callB (show CallR _ (.builtin "len") (rLenQ K) from call_lenD') (by rfl) T.len PySem.boot_len (pa_cons (pv 0) pa_nil)) pa_nil)) (blkOk_by (own := [("i", 8)]) (N := N_side_by_side) (sc := defScope s_side_by_side) (by decide +kernel)) (fun _ _ _ _ _ => (pg_name (i := 8) sc_side_by_side.nd rfl (.inl rfl))) (fun _ _ _ _ _ => pts_one (pt_cmpR (show OpR _ (compareOp .In) (rIn K false) from op_in_seq) (pv 3) (pe_ix (show IxR _ (rIxT K) from ix_tup) (pv 0) (pv 8) (fun _ _ => rfl)) (by with_unfolding_all rfl))) (fun _ _ _ _ _ => (pv 8)))
    (pss_cons (ps_if (PW.pt (pw_or (pt_cmpR op_eq (pe_callB (show CallR _ (.builtin "len") (rLenQ K) from call_lenD') (by rfl) T.len PySem.boot_len (pa_cons (pv 4) pa_nil)) pe_int (nomark _)) (pw_or1 (pt_cmpR op_ne (pe_op op_add (pe_op op_sub (pe_ix (show IxR _ (rIxL K) from ix_list) (pv 4) (pe_un un_neg pe_int) (fun _ _ => rfl)) (pe_ix (show IxR _ (rIxL K) from ix_list) (pv 4) pe_int (fun _ _ => rfl))) pe_int) (pe_callB (show CallR _ (.builtin "len") (rLenQ K) from call_lenD') (by rfl) T.len PySem.boot_len (pa_cons (pv 4) pa_nil)) (nomark _)))))
        (pss_one (ps_ret pe_bl))
      pss_nil)
    (pss_one (ps_for PassesOwn.never rfl (pi_list (pv 2)) (pg_name (i := 5) sc_side_by_side.nd rfl (.inr rfl))
        (pss_cons (ps_set (i := 6) sc_side_by_side.nd rfl (.inl rfl) (pe_and (pe_cmpR op_le (pe_dget hu (pv 1) (pe_tup (pa_cons pe_str (pa_cons (pv 3) pa_nil))) (fun _ _ => rfl)) (pe_dget hu (pv 1) (pe_tup (pa_cons pe_str (pa_cons (pv 5) pa_nil))) (fun _ _ => rfl)) (nomark _)) (pe_one (pe_cmpR op_le (pe_dget hu (pv 1) (pe_tup (pa_cons pe_str (pa_cons (pv 5) pa_nil))) (fun _ _ => rfl)) (pe_dget hu (pv 1) (pe_tup (pa_cons pe_str (pa_cons (pv 3) pa_nil))) (fun _ _ => rfl)) (nomark _)))))
        (pss_one (ps_if (pt_cmpR op_ne (pv 6) (pe_cmpR op_gt (pe_callB (show CallR _ (.builtin "len") (rLenQ K) from call_lenD') (by rfl) T.len PySem.boot_len (pa_cons (pe_lc (own := [("i", 8)]) rfl sc_side_by_side.nd (pi_list (pv 4)) (blkOk_by (own := [("i", 8)]) (N := N_side_by_side) (sc := defScope s_side_by_side) (by decide +kernel)) (fun _ _ _ _ _ => (pg_name (i := 8) sc_side_by_side.nd rfl (.inl rfl))) (fun _ _ _ _ _ => pts_one (pt_cmpR (show OpR _ (compareOp .In) (rIn K false) from op_in_seq) (pv 5) (pe_ix (show IxR _ (rIxT K) from ix_tup) (pv 0) (pv 8) (fun _ _ => rfl)) (by with_unfolding_all rfl))) (fun _ _ _ _ _ => (pv 8))) pa_nil)) pe_int (nomark _)) (nomark _))
            (pss_one (ps_ret pe_bl))
          pss_nil))))))))
(pss_one (ps_ret (pe_cmpR op_le (pe_callB (show CallR _ (.builtin "len") (rLenQ K) from call_lenD') (by rfl) T.len PySem.boot_len (pa_cons (pv 0) pa_nil)) (pe_callB (show CallR _ (.builtin "len") (rLenQ K) from call_lenD') (by rfl) T.len PySem.boot_len (pa_cons (pv 2) pa_nil)) (nomark _)))))), ?_⟩
    have lU := us.ln dk.d
    have lats : ats.length ≤ U.length := by
      obtain ⟨Z, hz, _, hl⟩ := kept_years (e := eOf kvs) yr
      have := congrArg List.length (rows.trans hz)
      rw [List.length_map, List.length_map] at this
      omega
    walk_at "go"
    refine units_read (i := 1) (j := 7) rfl rfl (show (7 : Nat) < 9 by decide) hd dk.d fun Dl H1 s1 nDl hDl => ?_
    walk_at "go"
    refine units_sort dk.d hDl fun ou U' nou us' => ?_
    obtain rfl := us_eq us' us dk.d
    have s2 : Same H (upd H1 ou (.lst (U'.map V.str))) := s1.trans (same_upd nou)
    have hou : upd H1 ou (.lst (U'.map V.str)) ou = some (.lst (U'.map V.str)) := upd_same
    generalize upd H1 ou (.lst (U'.map V.str)) = H2 at s2 hou
    walk_at "go"
    refine ⟨ou, rfl, ⟨_, SqL.of hou⟩, ?_⟩
    refine for_list (K := K) (a := ou) (xs := U'.map V.str) (fun i σ H' => ∃ (x3 x4 x5 x6 : Option V), σ = [some (.ref o), some (.ref d), some (.ref ou), x3, x4, x5, x6, none, none] ∧ Same H2 H')
      ⟨none, none, none, none, rfl, Same.refl _⟩ (fun i σ H3 _ hW => ?_) (fun i z σ H3 hz hW => ?_) (fun σ H3 hW => ?_)
    · obtain ⟨_, _, _, _, _, sm⟩ := hW
      exact SqL.of (sm _ _ hou)
    · obtain ⟨x3, x4, x5, x6, rfl, s3⟩ := hW
      obtain ⟨u, hu2, rfl⟩ := get_map hz
      have mu := List.mem_of_getElem? hu2
      have s03 := s2.trans s3
      have ho3 := s03 _ _ ho
      walk_at "go"
      refine r_lc ?_
      walk_at "go"
      refine r_lenT (SqT.of ho3) ?_
      walk_at "go"
      rw [List.length_map]
      refine ⟨_, rfl, by omega, by omega, fun Dw nw => ?_⟩
      rw [Int.toNat_natCast]
      refine lc_it (walk_range (lo := 0) (n := ats.length)) (LcP H3 Dw (List.range ats.length) fun i => if decide (u ∈ rowI ats i) = true then some (V.int (0 + (i : Int))) else none) (LcP.zero nw) (fun i H' _ h => trivial) (fun j x H4 H5 hj hP hy => ?_) (fun H4 hP => ?_)
      · obtain ⟨rfl, rfl⟩ := hy
        have hj2 : (List.range ats.length)[j]? = some j := by
          rw [List.getElem?_range hj]
        walk_at "go"
        refine ⟨rfl, ?_⟩
        walk_at "go"
        refine r_ixT (SqT.of (hP.1 _ _ ho3)) (atI_of (j := j) (v := .ref ats[j].1) (by omega) (by rw [List.getElem?_map, List.getElem?_eq_getElem hj]; rfl)) ?_
        refine r_inT (SqT.of (hP.1 _ _ (s03 _ _ (ra _ (List.getElem_mem hj))))) rfl (flat_strs _) ?_
        rw [if_neg Bool.false_ne_true, inV_dec]
        walk_at "go"
        have er := rowI_of (List.getElem?_eq_getElem hj)
        rw [← er]
        refine r_ite (fun e => ?_) (fun e => ?_)
        · walk_at "go"
          exact hP.yes nw hj2 (Same.refl _) (by rw [if_pos e]) (by rw [List.length_range]; omega)
        · exact hP.no hj2 (Same.refl _) (by rw [e]; rfl)
      · have hP2 : LcP H3 Dw (List.range ats.length) (fun i => if decide (u ∈ rowI ats i) = true then some (V.int (0 + (i : Int))) else none) (List.range ats.length).length H4 := by
          rw [List.length_range]
          exact hP
        obtain ⟨s4, h4⟩ := hP2.all
        rw [fm_if] at h4
        have hne : ∃ i, i < ats.length ∧ decide (u ∈ rowI ats i) = true := by
          obtain ⟨i, hi, m, _⟩ := (rows_has rows (us.be dk.d) yr mu mu).mp ⟨us.be dk.d u mu, us.be dk.d u mu⟩
          exact ⟨i, hi, decide_eq_true m⟩
        obtain ⟨a, c, hrun⟩ := conv_run (p := fun i => decide (u ∈ rowI ats i)) (rows_conv rows yr u) hne
        have memW : ∀ i, i ∈ List.range' a (c + 1) ↔ i < ats.length ∧ u ∈ rowI ats i := fun i => by
          rw [← hrun, List.mem_filter, List.mem_range, decide_eq_true_eq]
        rw [hrun] at h4
        have lenW : ((List.range' a (c + 1)).map fun i : Nat => V.int (0 + (i : Int))).length = c + 1 := by rw [List.length_map, List.length_range']
        have atW : ∀ i, i < c + 1 → ((List.range' a (c + 1)).map fun i : Nat => V.int (0 + (i : Int)))[i]? = some (V.int (0 + ((a + i : Nat) : Int))) := fun i hi => by
          rw [List.getElem?_map, List.getElem?_range' hi]
          simp
        walk_at "go"
        refine r_lenL (SqL.of h4) ?_
        walk_at "go"
        rw [lenW]
        refine r_ite (fun e => ?_) (fun _ => ?_)
        · have := of_decide_eq_true e
          omega
        · walk_at "go"
          refine r_ixL (SqL.of h4) (atI_neg1 (by rw [lenW]; exact atW c (by omega))) ?_
          walk_at "go"
          refine r_ixL (SqL.of h4) (atI_of (j := 0) rfl (atW 0 (by omega))) ?_
          walk_at "go"
          refine r_lenL (SqL.of h4) ?_
          walk_at "go"
          rw [lenW]
          rw [decide_eq_true (show 0 + ((a + c : Nat) : Int) - (0 + ((a + 0 : Nat) : Int)) + 1 = ((c + 1 : Nat) : Int) by omega)]
          refine r_ite (fun z => nomatch z) (fun _ => ?_)
          walk_at "go"
          have s24 : Same H2 H4 := s3.trans s4
          refine ⟨ou, rfl, ⟨_, SqL.of (s24 _ _ hou)⟩, ?_⟩
          refine for_list (K := K) (a := ou) (xs := U'.map V.str) (fun i σ H' => ∃ (y5 y6 : Option V), σ = [some (.ref o), some (.ref d), some (.ref ou), some (.str u), some (.ref Dw), y5, y6, none, none] ∧ Same H4 H')
            ⟨_, _, rfl, Same.refl _⟩ (fun i σ H5 _ hW => ?_) (fun i zz σ H5 hz5 hW => ?_) (fun σ H5 hW => ?_)
          · obtain ⟨_, _, _, sm⟩ := hW
            exact SqL.of (sm _ _ (s24 _ _ hou))
          · obtain ⟨y5, y6, rfl, s5⟩ := hW
            obtain ⟨v, hv2, rfl⟩ := get_map hz5
            have mv := List.mem_of_getElem? hv2
            have s05 := (s2.trans s24).trans s5
            obtain ⟨bu, eu, _⟩ := yrs_of dk.d (us.pm.mem_iff.mp mu)
            obtain ⟨bv, ev, _⟩ := yrs_of dk.d (us.pm.mem_iff.mp mv)
            have hds := rows_has rows (us.be dk.d) yr mu mv
            walk_at "go"
            refine r_meet (i := 1) (ju := 3) (jv := 5) rfl rfl rfl (s05 _ _ hd) bu eu bv ev fun H6 s6 => ?_
            walk_at "go"
            refine r_lc ?_
            walk_at "go"
            have h46 := s6 _ _ (s5 _ _ h4)
            have s06 := s05.trans s6
            refine ⟨Dw, rfl, ⟨_, SqL.of h46⟩, fun Di ni => ?_⟩
            refine lc_it (walk_list (K := K) (a := Dw) (xs := (List.range' a (c + 1)).map fun i : Nat => V.int (0 + (i : Int)))) (LcP H6 Di (List.range' a (c + 1)) fun i => if decide (v ∈ rowI ats i) = true then some (V.int (0 + (i : Int))) else none) (LcP.zero ni) (fun i H' _ h => SqL.of (h.1 _ _ h46)) (fun j x H7 H8 hj hP3 hy => ?_) (fun H7 hP3 => ?_)
            · obtain ⟨rfl, hx⟩ := hy
              obtain ⟨n, hn, rfl⟩ := get_map hx
              have hnl := ((memW n).mp (List.mem_of_getElem? hn)).1
              walk_at "go"
              refine ⟨rfl, ?_⟩
              walk_at "go"
              refine r_ixT (SqT.of (hP3.1 _ _ (s06 _ _ ho))) (atI_of (j := n) (v := .ref ats[n].1) (by omega) (by rw [List.getElem?_map, List.getElem?_eq_getElem hnl]; rfl)) ?_
              refine r_inT (SqT.of (hP3.1 _ _ (s06 _ _ (ra _ (List.getElem_mem hnl))))) rfl (flat_strs _) ?_
              rw [if_neg Bool.false_ne_true, inV_dec]
              walk_at "go"
              have er := rowI_of (List.getElem?_eq_getElem hnl)
              rw [← er]
              refine r_ite (fun e => ?_) (fun e => ?_)
              · walk_at "go"
                exact hP3.yes ni hn (Same.refl _) (by rw [if_pos e]) (by rw [List.length_range']; rw [lenW] at hj; have := (memW (a + c)).mp (List.mem_range'_1.mpr ⟨by omega, by omega⟩); omega)
              · exact hP3.no hn (Same.refl _) (by rw [e]; rfl)
            · rw [List.length_map] at hP3
              obtain ⟨s7, h7⟩ := hP3.all
              rw [fm_if] at h7
              walk_at "go"
              refine r_lenL (SqL.of h7) ?_
              walk_at "go"
              have same : decide (((((List.range' a (c + 1)).filter fun i => decide (v ∈ rowI ats i)).map fun i : Nat => V.int (0 + (i : Int))).length : Int) > 0) = (decide (bOf kvs u ≤ eOf kvs v) && decide (bOf kvs v ≤ eOf kvs u)) := by
                rw [Bool.eq_iff_iff, Bool.and_eq_true, decide_eq_true_eq, decide_eq_true_eq, decide_eq_true_eq, hds, List.length_map]
                constructor
                · intro h
                  obtain ⟨n, hn⟩ := List.exists_mem_of_length_pos (show 0 < ((List.range' a (c + 1)).filter fun i => decide (v ∈ rowI ats i)).length by omega)
                  obtain ⟨h1, h2⟩ := List.mem_filter.mp hn
                  obtain ⟨h3, h4⟩ := (memW n).mp h1
                  exact ⟨n, h3, h4, of_decide_eq_true h2⟩
                · rintro ⟨n, h1, h2, h3⟩
                  have m : n ∈ (List.range' a (c + 1)).filter fun i => decide (v ∈ rowI ats i) := List.mem_filter.mpr ⟨(memW n).mpr ⟨h1, h2⟩, decide_eq_true h3⟩
                  have := List.length_pos_of_mem m
                  omega
              refine r_neB ?_
              walk_at "go"
              rw [same, decide_eq_true rfl]
              refine r_ite (fun z => nomatch z) (fun _ => ?_)
              walk_at "go"
              exact ⟨_, _, rfl, (s5.trans s6).trans s7⟩
          · obtain ⟨y5, y6, rfl, s5⟩ := hW
            walk_at "go"
            exact ⟨_, _, _, _, rfl, s24.trans s5⟩
    · obtain ⟨x3, x4, x5, x6, rfl, s3⟩ := hW
      have s03 := s2.trans s3
      walk_at "go"
      refine r_lenT (SqT.of (s03 _ _ ho)) ?_
      walk_at "go"
      refine r_lenL (SqL.of (s3 _ _ hou)) ?_
      walk_at "go"
      rw [List.length_map, List.length_map, decide_eq_true (show ((ats.length : Nat) : Int) ≤ (U'.length : Nat) by omega)]
      exact q H3 s03
end
end
section
open PySem PySem.Spec PyProof.Rows L2
section
variable {P : Program} {w : World} {K : PySem.W.Frag} {mg : Str → Option Value} {base : Heap}
/-! ### _law_good -/
abbrev s_good : Stmt := topS 13
abbrev N_good : List Str := ["past", "at", "told"]
theorem sc_good : FnScope N_good ["past", "at"] (defScope s_good) := ⟨rfl, rfl, rfl, by decide +kernel, rfl, by decide +kernel, by decide +kernel⟩
def spGood : Sp := fun vs H Q _ => ∃ (p d a : Addr) (x y : V) (kvs : DT), vs = [.ref p, .ref a] ∧ H p = some (.tup [.ref d, x, y]) ∧ H d = some (.dT kvs) ∧ H a = some (.dT kvs) ∧ D4 kvs ∧
  ∀ (H' : Hp), Same H H' → Q (.bl true) H'
theorem rows_ok {kvs : DT} {ats : List (Addr × List Str)} {U : List Str} {b e : Str → Int} {Y : List Int} (dk : D4 kvs) (us : Us kvs U) (h : ats.map (·.2) = keptB U b e Y) : ∀ k ∈ ats.map (·.2), ∀ x ∈ k, NOk x := fun k hk x hx => by
  rw [h] at hk
  obtain ⟨y, _, rfl⟩ := List.mem_map.mp (List.mem_filter.mp hk).1
  exact dk.us us x (mem_row.mp hx).1
theorem ok_good {k : Nat} (D : DefAt K mg "_law_good" s_good ["past", "at"]) (T : Txt4 mg) (c_phases : C8.Cal P w K mg base (k + 2) "phases" spPhases []) (c_due : C8.Cal P w K mg base (k + 1) "_law_due" spDue []) (c_side_by_side : C8.Cal P w K mg base (k + 1) "_law_side_by_side" spSide []) : C8.Cal P w K mg base (k + 3) "_law_good" spGood [] := by
  obtain ⟨f, fd, F, hg, b⟩ := D.ex
  refine cal_of F hg b sc_good (fun vs H Q E h => ?_) (fun cdv A outer s H vs Q E hr h => ?_)
  · obtain ⟨p, d, a, x, y, kvs, rfl, _⟩ := h
    rfl
  · obtain ⟨p, d, a, x, y, kvs, rfl, hp, hd, ha, dk, q⟩ := h
    have hu := hu_of hr
    refine ⟨_, (pss_cons (ps_set (i := 2) sc_good.nd rfl (.inl rfl) (C8.pe_c c_phases hr (by omega) (by rfl) (pa_cons (pv 0) pa_nil)))
(pss_cons (ps_if (PW.pt (pw_or (pt_not (pt_val (pe_callB (show CallR _ (.builtin "isinstance") (rIsi K) from call_isi) (by rfl) T.isinstance (by decide +kernel) (pa_cons (pv 2) (pa_cons (pe_bltn (v := .ty "tuple") (by rfl) T.tuple (by decide +kernel) rfl) pa_nil))))) (pw_or (pt_cmpR (show OpR _ (compareOp .NotEq) (rNeD K) from (op_neD hr.units)) (pv 2) (C8.pe_c c_due hr (by omega) (by rfl) (pa_cons (pv 1) pa_nil)) (nomark _)) (pw_or1 (pt_not (pt_val (C8.pe_c c_side_by_side hr (by omega) (by rfl) (pa_cons (pv 2) (pa_cons (pv 1) pa_nil)))))))))
    (pss_one (ps_ret pe_bl))
  pss_nil)
(pss_one (ps_ret (pe_cmpR (op_eqDT hu) (pe_ix (show IxR _ (rIxT K) from ix_tup) (pv 0) pe_int (fun _ _ => rfl)) (pv 1) (nomark _)))))), ?_⟩
    walk_at "go"
    refine ⟨p, d, x, y, kvs, rfl, hp, hd, dk, fun o ats U Y H1 s1 ho ra us yr rows => ?_⟩
    walk_at "go"
    refine r_isTup ho ?_
    walk_at "go"
    refine r_ite (fun z => nomatch z) (fun _ => ?_)
    walk_at "go"
    refine ⟨a, kvs, rfl, s1 _ _ ha, dk, fun o2 ats2 U2 Y2 H2 s2 ho2 ra2 us2 yr2 rows2 => ?_⟩
    obtain rfl := us_eq us2 us dk.d
    have same : ats2.map (·.2) = ats.map (·.2) := by rw [rows, rows2, kept_same (us.be dk.d) yr yr2]
    have ok := rows_ok dk us rows
    refine ⟨_, _, dp_rw (s2 _ _ ho) (ra.keep s2), dp_rw ho2 ra2, shaped_rw ok, shaped_rw (by rw [same]; exact ok), ?_⟩
    rw [same, SeqAt.eqv_refl _ (lay_rw ok)]
    walk_at "go"
    refine r_ite (fun z => nomatch z) (fun _ => ?_)
    walk_at "go"
    have s02 := s1.trans s2
    refine ⟨o, a, kvs, ats, U2, Y, rfl, s2 _ _ ho, ra.keep s2, s02 _ _ ha, dk, us, yr, rows, fun H3 s3 => ?_⟩
    have s03 := s02.trans s3
    walk_at "go"
    refine r_ite (fun z => nomatch z) (fun _ => ?_)
    walk_at "go"
    refine r_ixT (SqT.of (s03 _ _ hp)) (atI_of (j := 0) rfl rfl) ?_
    walk_at "go"
    refine ⟨d, a, kvs, kvs, rfl, rfl, s03 _ _ hd, s03 _ _ ha, rfl, fun e he => ?_, q H3 s03⟩
    obtain ⟨c, n, z, ez⟩ := dk.d.ks e he
    refine ⟨z, by rw [ez], ?_⟩
    have := mem_valV (k := e.1) (v := e.2) dk.d.nd he
    rw [this, ez]
/-! ### _law_years -/
abbrev s_years : Stmt := topS 9
abbrev N_years : List Str := ["pool", "units", "low", "at", "u"]
theorem sc_years : FnScope N_years ["pool", "units"] (defScope s_years) := ⟨rfl, rfl, rfl, by decide +kernel, rfl, by decide +kernel, by decide +kernel⟩
def spYears (K : PySem.W.Frag) : Sp := fun vs H Q _ => ∃ (p g c : Addr) (ss : List Str), vs = [.ref p, .ref c] ∧ PoolAt H p g ∧ H c = some (.lst (ss.map V.str)) ∧ (∀ x ∈ ss, NOk x) ∧ ss.length ≤ 16 ∧ c ≠ p ∧ c ≠ g ∧
  ∀ (d : Addr) (kvs : DT) (H' : Hp), PoolAt H' p g → But2 p g H H' → H d = none → H' d = some (.dT kvs) → D4 kvs → Q (.ref d) H'
structure YC (H : Hp) (p g d c : Addr) (ss : List Str) (kvs : DT) (H' : Hp) : Prop where
  pl : PoolAt H' p g
  bt : But2 p g H H'
  dd : H' d = some (.dT kvs)
  uu : H' c = some (.lst (ss.map V.str))
theorem YC.put {H : Hp} {p g d c : Addr} {ss : List Str} {kvs kvs' : DT} {H1 H2 : Hp} (s : YC H p g d c ss kvs H1) (nd : H d = none) (h : H2 d = some (.dT kvs')) (b : But1 d H1 H2) : YC H p g d c ss kvs' H2 := by
  obtain ⟨⟨n, ns, m, k, z1, z2, r⟩, bt, dd, uu⟩ := s
  exact ⟨⟨n, ns, m, k, b _ _ z1 (ne_of z1 dd (fun z => nomatch z)), b _ _ z2 (ne_of z2 dd (fun z => nomatch z)), r⟩, fun x o e h1 h2 => b _ _ (bt x o e h1 h2) (ne_of_none e nd), h, b _ _ uu (ne_of uu dd (fun z => nomatch z))⟩
theorem YC.call {H : Hp} {p g d c : Addr} {ss : List Str} {kvs : DT} {H1 H2 : Hp} (s : YC H p g d c ss kvs H1) (h1 : c ≠ p) (h2 : c ≠ g) (hP : PoolAt H2 p g) (e : But2 p g H1 H2) : YC H p g d c ss kvs H2 :=
  ⟨hP, s.bt.trans e, e.dT s.pl s.dd, e _ _ s.uu h1 h2⟩
theorem YC.same {H : Hp} {p g d c : Addr} {ss : List Str} {kvs : DT} {H1 H2 : Hp} (s : YC H p g d c ss kvs H1) (e : Same H1 H2) : YC H p g d c ss kvs H2 :=
  ⟨s.pl.keep e, s.bt.trans (But2.of e), e _ _ s.dd, e _ _ s.uu⟩
theorem extra {σ : L2.St} {H H4 : Hp} {p g d c : Addr} {ss : List Str} {kvs : DT} {r cm : Int} {Q : VK} (h0 : σ[0]? = some (some (.ref p))) (h1 : σ[1]? = some (some (.ref c))) (y4 : YC H p g d c ss kvs H4) (nok : ∀ x ∈ ss, NOk x) (ncp : c ≠ p) (ncg : c ≠ g) (lss : ss.length ≤ 16) (hcm : cm ≤ 3) (r0 : 0 ≤ r) (r1 : r < cm ∨ r = 0)
    (q : ∀ (la : Addr) (nn : List Str) (H' : Hp), YC H p g d c ss kvs H' → H' la = some (.lst (nn.map V.str)) → (∀ x ∈ nn, NOk x) → nn.length ≤ 4 → la ≠ p → la ≠ g → la ≠ d → Q (.ref la) H') :
    rSlL K (.ref c) none (some r) H4 fun x H1 => tCall (spNames K) [] C8.E0 (tCons (tVar 0) (tCons (tCall spPick [] C8.E0 (tCons (tVar 0) (tCons (tC (.int cm)) tNil))) (tCons (tVar 1) tNil))) σ H1 fun y H2 => rCat x y H2 Q := by
  obtain ⟨n, rfl⟩ : ∃ n : Nat, r = n := ⟨r.toNat, by omega⟩
  refine ⟨c, ss.map V.str, rfl, SqL.of y4.uu, fun la nla => ?_⟩
  rw [cutV_to, ← List.map_take]
  have nlp : la ≠ p := fun z => y4.pl.np (by rw [← z]; exact nla)
  have nlg : la ≠ g := fun z => y4.pl.ng (by rw [← z]; exact nla)
  have y5 := y4.same (same_upd (o := .lst ((ss.take n).map V.str)) nla)
  have hla : upd H4 la (.lst ((ss.take n).map V.str)) la = some (.lst ((ss.take n).map V.str)) := upd_same
  generalize upd H4 la (.lst ((ss.take n).map V.str)) = H5 at y5 hla
  refine r_call (r_cons (r_var h0 (r_cons (r_call (r_cons (r_var h0 (r_cons (r_c (r_nil ?_)))))))))
  refine ⟨p, g, cm, rfl, y5.pl, by omega, fun r2 H6 hP6 e6 a0 a1 => ?_⟩
  have y6 := y5.call ncp ncg hP6 e6
  refine r_cons (r_var h1 (r_nil ?_))
  refine ⟨p, g, c, r2, ss, rfl, hP6, a0, by omega, SqL.of y6.uu, ncp, ncg, fun on nn H7 hP7 e7 non7 hon7 lnn knn => ?_⟩
  have y7 := y6.call ncp ncg hP7 e7
  have lt : (ss.take n).length ≤ 2 := by
    rw [List.length_take]
    omega
  refine r_cat (e7 _ _ (e6 _ _ hla nlp nlg) nlp nlg) hon7 (sz_le (by rw [List.length_map, List.length_map]; omega)) fun o no => ?_
  rw [← List.map_append]
  refine q o (ss.take n ++ nn) _ (y7.same (same_upd no)) upd_same (fun x hx => ?_) (by rw [List.length_append]; omega) (fun z => y7.pl.np (by rw [← z]; exact no)) (fun z => y7.pl.ng (by rw [← z]; exact no)) (fun z => by
    have := y7.dd
    rw [← z, no] at this
    cases this)
  rcases List.mem_append.mp hx with hx | hx
  · exact nok x (List.mem_of_mem_take hx)
  · exact knn x hx
theorem ok_years {k : Nat} (D : DefAt K mg "_law_years" s_years ["pool", "units"]) (T : Txt4 mg) (c_pick : C8.Cal P w K mg base (k + 1) "_law_pick" spPick []) (c_one : C8.Cal P w K mg base (k + 2) "_law_one" (spOne K) []) (c_names : C8.Cal P w K mg base (k + 3) "_law_names" (spNames K) []) : C8.Cal P w K mg base (k + 4) "_law_years" (spYears K) [] := by
  obtain ⟨f, fd, F, hg, b⟩ := D.ex
  refine cal_of F hg b sc_years (fun vs H Q E h => ?_) (fun cdv A outer s H vs Q E hr h => ?_)
  · obtain ⟨p, g, c, ss, rfl, _⟩ := h
    rfl
  · obtain ⟨p, g, c, ss, rfl, hP, hc, nok, lss, ncp, ncg, q⟩ := h
    have hu := hu_of hr
    refine ⟨_, (pss_cons (ps_set (i := 2) sc_years.nd rfl (.inl rfl) (C8.pe_c c_one hr (by omega) (by rfl) (pa_cons (pv 0) (pa_cons (pe_lst (pa_cons pe_int (pa_cons pe_int (pa_cons pe_int (pa_cons pe_int (pa_cons pe_int pa_nil)))))) pa_nil))))
(pss_cons (ps_set (i := 3) sc_years.nd rfl (.inl rfl) pe_dnewT)
(pss_cons (ps_for PassesOwn.never rfl (pi_list (pv 1)) (pg_name (i := 4) sc_years.nd rfl (.inl rfl))
    (pss_cons (ps_dput hu (pv 3) (pe_tup (pa_cons pe_str (pa_cons (pv 4) pa_nil))) (pe_op op_add (pv 2) (C8.pe_c c_pick hr (by omega) (by rfl) (pa_cons (pv 0) (pa_cons pe_int pa_nil)))) rfl)
    (pss_one (ps_dput hu (pv 3) (pe_tup (pa_cons pe_str (pa_cons (pv 4) pa_nil))) (pe_callB (call_min2D rfl) (by rfl) T.min (by decide +kernel) (pa_cons pe_int (pa_cons (pe_op op_add (pe_dget hu (pv 3) (pe_tup (pa_cons pe_str (pa_cons (pv 4) pa_nil))) (fun _ _ => rfl)) (C8.pe_c c_one hr (by omega) (by rfl) (pa_cons (pv 0) (pa_cons (pe_lst (pa_cons pe_int (pa_cons pe_int (pa_cons pe_int (pa_cons pe_int (pa_cons pe_int (pa_cons pe_int (pa_cons pe_int pa_nil)))))))) pa_nil)))) pa_nil))) rfl))))
(pss_cons (ps_for PassesOwn.never rfl (pi_list (pe_op op_cat (pe_slice (show SlR _ (rSlL K) from sl_list) (pv 1) po_none (po_some (C8.pe_c c_pick hr (by omega) (by rfl) (pa_cons (pv 0) (pa_cons pe_int pa_nil))))) (C8.pe_c c_names hr (by omega) (by rfl) (pa_cons (pv 0) (pa_cons (C8.pe_c c_pick hr (by omega) (by rfl) (pa_cons (pv 0) (pa_cons pe_int pa_nil))) (pa_cons (pv 1) pa_nil)))))) (pg_name (i := 4) sc_years.nd rfl (.inl rfl))
    (pss_one (ps_dput hu (pv 3) (pe_tup (pa_cons pe_str (pa_cons (pv 4) pa_nil))) (pe_op op_add (pv 2) (C8.pe_c c_pick hr (by omega) (by rfl) (pa_cons (pv 0) (pa_cons pe_int pa_nil)))) rfl)))
(pss_cons (ps_for PassesOwn.never rfl (pi_list (pe_op op_cat (pe_slice (show SlR _ (rSlL K) from sl_list) (pv 1) po_none (po_some (C8.pe_c c_pick hr (by omega) (by rfl) (pa_cons (pv 0) (pa_cons pe_int pa_nil))))) (C8.pe_c c_names hr (by omega) (by rfl) (pa_cons (pv 0) (pa_cons (C8.pe_c c_pick hr (by omega) (by rfl) (pa_cons (pv 0) (pa_cons pe_int pa_nil))) (pa_cons (pv 1) pa_nil)))))) (pg_name (i := 4) sc_years.nd rfl (.inl rfl))
    (pss_cons (ps_dput hu (pv 3) (pe_tup (pa_cons pe_str (pa_cons (pv 4) pa_nil))) (pe_op op_add (pv 2) (C8.pe_c c_pick hr (by omega) (by rfl) (pa_cons (pv 0) (pa_cons pe_int pa_nil)))) rfl)
    (pss_one (ps_dput hu (pv 3) (pe_tup (pa_cons pe_str (pa_cons (pv 4) pa_nil))) (pe_op op_add (pe_dget hu (pv 3) (pe_tup (pa_cons pe_str (pa_cons (pv 4) pa_nil))) (fun _ _ => rfl)) (C8.pe_c c_pick hr (by omega) (by rfl) (pa_cons (pv 0) (pa_cons pe_int pa_nil)))) rfl))))
(pss_one (ps_ret (pv 3)))))))), ?_⟩
    have fr : ∀ {H' : Hp} {a : Addr}, But2 p g H H' → H' a = none → PoolAt H' p g → H a = none ∧ a ≠ p ∧ a ≠ g := fun {H' a} e na hP' =>
      ⟨e.free na hP'.np hP'.ng, fun z => hP'.np (by rw [← z]; exact na), fun z => hP'.ng (by rw [← z]; exact na)⟩
    walk_at "go"
    refine one_lit hP (by simp) (by simp) fun v H1 hv hP1 e1 => ?_
    obtain ⟨lo, rfl, l0, l1⟩ : ∃ m : Int, v = .int m ∧ 0 ≤ m ∧ m ≤ 3991 := by
      simp only [List.mem_cons, List.not_mem_nil, or_false] at hv
      rcases hv with rfl | rfl | rfl | rfl | rfl <;> exact ⟨_, rfl, by decide, by decide⟩
    clear hv
    walk_at "go"
    intro d nd1
    obtain ⟨nd, ndp, ndg⟩ := fr e1 nd1 hP1
    have y0 : YC H p g d c ss [] (upd H1 d (.dT [])) := ⟨hP1.keep (same_upd nd1), e1.trans (But2.of (same_upd nd1)), upd_same, same_upd nd1 _ _ (e1 _ _ hc ncp ncg)⟩
    generalize upd H1 d (.dT []) = H2 at y0
    walk_at "go"
    refine ⟨c, rfl, ⟨_, SqL.of y0.uu⟩, ?_⟩
    refine for_list (K := K) (a := c) (xs := ss.map V.str) (fun i σ H' => ∃ (kvs : DT) (x4 : Option V), σ = [some (.ref p), some (.ref c), some (.int lo), some (.ref d), x4] ∧ YC H p g d c ss kvs H' ∧ D4 kvs ∧ kvs.length ≤ 2 * i)
      ⟨[], none, rfl, y0, D4.nil, Nat.le_refl _⟩ (fun i σ H3 _ hW => ?_) (fun i z σ H3 hz hW => ?_) (fun σ H3 hW => ?_)
    · obtain ⟨_, _, _, y, _⟩ := hW
      exact SqL.of y.uu
    · obtain ⟨kvs, x4, rfl, y3, dk, lk⟩ := hW
      obtain ⟨n, hn, rfl⟩ := get_map hz
      have hi : i < ss.length := (List.getElem?_eq_some_iff.mp hn).1
      have kn := nok n (List.mem_of_getElem? hn)
      walk_at "go"
      refine ⟨p, g, 9, rfl, y3.pl, by decide, fun r H4 hP4 e4 r0 r1 => ?_⟩
      have y4 := y3.call ncp ncg hP4 e4
      walk_at "go"
      refine r_putkey y4.dd (by omega) fun H5 hd5 b5 => ?_
      have y5 := y4.put nd hd5 b5
      have l5 := putK_len (kvs := kvs) (k := key "b" n) (.int (lo + r))
      walk_at "go"
      refine r_gk (i := 3) (j := 4) rfl rfl y5.dd (v := .int (lo + r)) (by rw [valV_put, if_pos rfl]) fun H6 s6 => ?_
      have y6 := y5.same s6
      walk_at "go"
      refine one_lit y6.pl (by simp) (by simp) fun v H7 hv hP7 e7 => ?_
      obtain ⟨m, rfl, m0, m1⟩ : ∃ m : Int, v = .int m ∧ 0 ≤ m ∧ m ≤ 30 := by
        simp only [List.mem_cons, List.not_mem_nil, or_false] at hv
        rcases hv with rfl | rfl | rfl | rfl | rfl | rfl | rfl <;> exact ⟨_, rfl, by decide, by decide⟩
      clear hv
      have y7 := y6.call ncp ncg hP7 e7
      walk_at "go"
      refine r_putkey y7.dd (by omega) fun H8 hd8 b8 => ?_
      have y8 := y7.put nd hd8 b8
      have l8 := putK_len (kvs := putK kvs (key "b" n) (.int (lo + r))) (k := key "e" n) (.int (if lo + r + m < 4000 then lo + r + m else 4000))
      walk_at "go"
      exact ⟨_, _, rfl, y8, dk.put2 kn (by omega) (by split <;> omega) (by omega) (by omega), by omega⟩
    · obtain ⟨kvs, x4, rfl, y3, dk, lk⟩ := hW
      rw [List.length_map] at lk
      -- names = units[:..] + names(..), twice
      walk_at "go"
      refine ⟨p, g, 3, rfl, y3.pl, by decide, fun r H4 hP4 e4 r0 r1 => ?_⟩
      have y4 := y3.call ncp ncg hP4 e4
      walk_at "go"
      refine extra rfl rfl y4 nok ncp ncg lss (by decide) r0 r1 fun la nn H5 y5 hla knn lnn nlp nlg nld => ?_
      refine ⟨la, rfl, ⟨_, SqL.of hla⟩, ?_⟩
      refine for_list (K := K) (a := la) (xs := nn.map V.str) (fun i σ H' => ∃ (kv : DT) (x4 : Option V), σ = [some (.ref p), some (.ref c), some (.int lo), some (.ref d), x4] ∧ YC H p g d c ss kv H' ∧ D4 kv ∧ kv.length ≤ 32 + i ∧ H' la = some (.lst (nn.map V.str)))
        ⟨kvs, _, rfl, y5, dk, by omega, hla⟩ (fun i σ H6 _ hW => ?_) (fun i z σ H6 hz hW => ?_) (fun σ H6 hW => ?_)
      · obtain ⟨_, _, _, _, _, _, z⟩ := hW
        exact SqL.of z
      · obtain ⟨kv, x5, rfl, y6, dk6, lk6, hla6⟩ := hW
        obtain ⟨n, hn, rfl⟩ := get_map hz
        have hi : i < nn.length := (List.getElem?_eq_some_iff.mp hn).1
        have kn := knn n (List.mem_of_getElem? hn)
        walk_at "go"
        refine ⟨p, g, 9, rfl, y6.pl, by decide, fun r7 H7 hP7 e7 r70 r71 => ?_⟩
        have y7 := y6.call ncp ncg hP7 e7
        have hla7 := e7 _ _ hla6 nlp nlg
        walk_at "go"
        refine r_putkey y7.dd (by omega) fun H8 hd8 b8 => ?_
        have y8 := y7.put nd hd8 b8
        have l8 := putK_len (kvs := kv) (k := key "m" n) (.int (lo + r7))
        walk_at "go"
        exact ⟨_, _, rfl, y8, dk6.put1 kn (by decide +kernel) (by decide +kernel) (by omega), by omega, b8 _ _ hla7 nld⟩
      · obtain ⟨kv, x5, rfl, y6, dk6, lk6, hla6⟩ := hW
        rw [List.length_map] at lk6
        walk_at "go"
        refine ⟨p, g, 2, rfl, y6.pl, by decide, fun r7 H7 hP7 e7 r70 r71 => ?_⟩
        have y7 := y6.call ncp ncg hP7 e7
        walk_at "go"
        refine extra rfl rfl y7 nok ncp ncg lss (by decide) r70 r71 fun lb n2 H8 y8 hlb kn2 ln2 mlp mlg mld => ?_
        refine ⟨lb, rfl, ⟨_, SqL.of hlb⟩, ?_⟩
        refine for_list (K := K) (a := lb) (xs := n2.map V.str) (fun i σ H' => ∃ (kw : DT) (x4 : Option V), σ = [some (.ref p), some (.ref c), some (.int lo), some (.ref d), x4] ∧ YC H p g d c ss kw H' ∧ D4 kw ∧ kw.length ≤ 36 + 2 * i ∧ H' lb = some (.lst (n2.map V.str)))
          ⟨kv, _, rfl, y8, dk6, by omega, hlb⟩ (fun i σ H9 _ hW => ?_) (fun i z σ H9 hz hW => ?_) (fun σ H9 hW => ?_)
        · obtain ⟨_, _, _, _, _, _, z⟩ := hW
          exact SqL.of z
        · obtain ⟨kw, x6, rfl, y9, dk9, lk9, hlb9⟩ := hW
          obtain ⟨n, hn, rfl⟩ := get_map hz
          have hi : i < n2.length := (List.getElem?_eq_some_iff.mp hn).1
          have kn := kn2 n (List.mem_of_getElem? hn)
          walk_at "go"
          refine ⟨p, g, 9, rfl, y9.pl, by decide, fun ra Ha hPa ea ra0 ra1 => ?_⟩
          have ya := y9.call ncp ncg hPa ea
          have hlba := ea _ _ hlb9 mlp mlg
          walk_at "go"
          refine r_putkey ya.dd (by omega) fun Hb hdb bb => ?_
          have yb := ya.put nd hdb bb
          have hlbb := bb _ _ hlba mld
          have lb1 := putK_len (kvs := kw) (k := key "f" n) (.int (lo + ra))
          walk_at "go"
          refine r_gk (i := 3) (j := 4) rfl rfl yb.dd (v := .int (lo + ra)) (by rw [valV_put, if_pos rfl]) fun Hc sc => ?_
          have yc := yb.same sc
          walk_at "go"
          refine ⟨p, g, 2, rfl, yc.pl, by decide, fun rd Hd hPd ed rd0 rd1 => ?_⟩
          have yd := yc.call ncp ncg hPd ed
          have hlbd := ed _ _ (sc _ _ hlbb) mlp mlg
          walk_at "go"
          refine r_putkey yd.dd (by omega) fun He hde be => ?_
          have ye := yd.put nd hde be
          have le1 := putK_len (kvs := putK kw (key "f" n) (.int (lo + ra))) (k := key "l" n) (.int (lo + ra + rd))
          walk_at "go"
          exact ⟨_, _, rfl, ye, (dk9.put1 kn (by decide +kernel) (by decide +kernel) (by omega)).put1 kn (by decide +kernel) (by decide +kernel) (by omega), by omega, be _ _ hlbd mld⟩
        · obtain ⟨kw, x6, rfl, y9, dk9, lk9, hlb9⟩ := hW
          walk_at "go"
          exact q d kw H9 y9.pl y9.bt nd y9.dd dk9
end
end
section
open PySem PySem.Spec PyProof.Rows L2
/-- the groups: lists of units at their addresses -/
structure PC (H : Hp) (p g ou gr : Addr) (U : List Str) (gs : List (Addr × List Str)) (m : Nat) (H' : Hp) : Prop where
  pl : PoolAt H' p g
  bt : But2 p g H H'
  uu : H' ou = some (.lst (U.map V.str))
  gg : H' gr = some (.lst (gs.map fun q => V.ref q.1))
  el : ∀ q ∈ gs, H' q.1 = some (.lst (q.2.map V.str)) ∧ q.2 ≠ [] ∧ (∀ x ∈ q.2, x ∈ U) ∧ q.1 ≠ p ∧ q.1 ≠ g ∧ q.1 ≠ gr ∧ q.2.length ≤ m
  ln : gs.length ≤ m
section
variable {H : Hp} {p g ou gr : Addr} {U : List Str} {gs : List (Addr × List Str)} {m : Nat} {H1 H2 : Hp}
theorem PC.call (c : PC H p g ou gr U gs m H1) (n1 : ou ≠ p) (n2 : ou ≠ g) (n3 : gr ≠ p) (n4 : gr ≠ g) (hP : PoolAt H2 p g) (e : But2 p g H1 H2) : PC H p g ou gr U gs m H2 :=
  ⟨hP, c.bt.trans e, e _ _ c.uu n1 n2, e _ _ c.gg n3 n4, fun q hq => by
    obtain ⟨a1, a2, a3, a4, a5, a6, a7⟩ := c.el q hq
    exact ⟨e _ _ a1 a4 a5, a2, a3, a4, a5, a6, a7⟩, c.ln⟩
theorem PC.same (c : PC H p g ou gr U gs m H1) (e : Same H1 H2) : PC H p g ou gr U gs m H2 :=
  ⟨c.pl.keep e, c.bt.trans (But2.of e), e _ _ c.uu, e _ _ c.gg, fun q hq => by
    obtain ⟨a1, a2⟩ := c.el q hq
    exact ⟨e _ _ a1, a2⟩, c.ln⟩
/-- the row of groups written -/
theorem PC.write {gs' : List (Addr × List Str)} {m' : Nat} (c : PC H p g ou gr U gs m H1) (nH : H gr = none) (n3 : gr ≠ p) (n4 : gr ≠ g) (n5 : ou ≠ gr) (el : ∀ q ∈ gs', H1 q.1 = some (.lst (q.2.map V.str)) ∧ q.2 ≠ [] ∧ (∀ x ∈ q.2, x ∈ U) ∧ q.1 ≠ p ∧ q.1 ≠ g ∧ q.1 ≠ gr ∧ q.2.length ≤ m') (ln : gs'.length ≤ m') :
    PC H p g ou gr U gs' m' (upd H1 gr (.lst (gs'.map fun q => V.ref q.1))) :=
  ⟨c.pl.put n3 n4, c.bt.mut nH, by rw [upd_ne n5]; exact c.uu, upd_same, fun q hq => by
    obtain ⟨a1, a2, a3, a4, a5, a6, a7⟩ := el q hq
    exact ⟨by rw [upd_ne a6]; exact a1, a2, a3, a4, a5, a6, a7⟩, ln⟩
end
theorem str_inj {k l : List Str} (h : k.map V.str = l.map V.str) : k = l := (List.map_inj_right fun x y e => V.str.inj e).mp h
/-- at['b', u] == at['b', v] and at['e', u] == at['e', v] -/
theorem r_alike {σ : L2.St} {H : Hp} {i ju jv : Nat} {d : Addr} {kvs : DT} {u v : Str} {Q : VK} {b1 e1 b2 e2 : Int} (hi : σ[i]? = some (some (.ref d))) (hu : σ[ju]? = some (some (.str u))) (hv : σ[jv]? = some (some (.str v))) (hd : H d = some (.dT kvs))
    (h1 : valV kvs (key "b" u) = some (.int b1)) (h2 : valV kvs (key "e" u) = some (.int e1)) (h3 : valV kvs (key "b" v) = some (.int b2)) (h4 : valV kvs (key "e" v) = some (.int e2)) (q : ∀ t H', Same H H' → Q (.bl t) H') :
    tAndV (tOp rEq (tDGet (tVar i) (tTup (tCons (tC (.str "b")) (tCons (tVar ju) tNil)))) (tDGet (tVar i) (tTup (tCons (tC (.str "b")) (tCons (tVar jv) tNil)))))
      (tOp rEq (tDGet (tVar i) (tTup (tCons (tC (.str "e")) (tCons (tVar ju) tNil)))) (tDGet (tVar i) (tTup (tCons (tC (.str "e")) (tCons (tVar jv) tNil))))) σ H Q := by
  refine r_andV (r_op (r_gk hi hu hd h1 fun H1 s1 => r_gk hi hv (s1 _ _ hd) h3 fun H2 s2 => r_eqI ⟨_, rfl, ?_⟩))
  have s02 := s1.trans s2
  refine r_ite (fun e => ?_) (fun e => ?_)
  · exact r_op (r_gk hi hu (s02 _ _ hd) h2 fun H3 s3 => r_gk hi hv (s3 _ _ (s02 _ _ hd)) h4 fun H4 s4 => r_eqI (q _ H4 ((s02.trans s3).trans s4)))
  · exact q false H2 s02
section
variable {P : Program} {w : World} {K : PySem.W.Frag} {mg : Str → Option Value} {base : Heap}
/-! ### _law_past -/
abbrev s_past : Stmt := topS 10
abbrev N_past : List Str := ["pool", "at", "p", "units", "groups", "u", "found", "i", "v", "alike_years", "shown", "spot", "told", "group"]
theorem sc_past : FnScope N_past ["pool", "at"] (defScope s_past) := ⟨rfl, rfl, rfl, by decide +kernel, rfl, by decide +kernel, by decide +kernel⟩
def spPast : Sp := fun vs H Q _ => ∃ (p g a : Addr) (kvs : DT), vs = [.ref p, .ref a] ∧ PoolAt H p g ∧ H a = some (.dT kvs) ∧ D4 kvs ∧
  ∀ (o d tp sh : Addr) (ats : List (Addr × List Str)) (z : Option (Str × Str × Str)) (H' : Hp), PoolAt H' p g → But2 p g H H' → H' o = some (.tup [.ref d, .ref tp, .ref sh]) → H d = none → H' d = some (.dT kvs) → H' tp = some (.tup (ats.map fun q => V.ref q.1)) → RowsAt H' ats →
    (∀ k ∈ ats.map (·.2), ∀ x ∈ k, NOk x) → ShAt H' sh z → Q (.ref o) H'
theorem ok_past {k : Nat} (D : DefAt K mg "_law_past" s_past ["pool", "at"]) (T : Txt4 mg) (c_pick : C8.Cal P w K mg base (k + 1) "_law_pick" spPick []) (c_one : C8.Cal P w K mg base (k + 2) "_law_one" (spOne K) []) (c_names : C8.Cal P w K mg base (k + 3) "_law_names" (spNames K) []) : C8.Cal P w K mg base (k + 4) "_law_past" spPast [] := by
  obtain ⟨f, fd, F, hg, b⟩ := D.ex
  refine cal_of F hg b sc_past (fun vs H Q E h => ?_) (fun cdv A outer s H vs Q E hr h => ?_)
  · obtain ⟨p, g, a, kvs, rfl, _⟩ := h
    rfl
  · obtain ⟨p, g, a, kvs, rfl, hP, ha, dk, q⟩ := h
    have hu := hu_of hr
    refine ⟨_, (pss_cons (ps_set (i := 3) sc_past.nd rfl (.inl rfl) (pe_callB (show CallR _ (.builtin "sorted") (rSortedS K) from cr_sortedS) (by rfl) T.sorted (by decide +kernel) (pa_cons (pe_lock (pe_lc (own := [("p", 2)]) rfl sc_past.nd (pi_keys (pv 1)) (blkOk_by (own := [("p", 2)]) (N := N_past) (sc := defScope s_past) (by decide +kernel)) (fun _ _ _ _ _ => (pg_name (i := 2) sc_past.nd rfl (.inl rfl))) (fun _ _ _ _ _ => pts_one (pt_cmpR op_eq (pe_ix (show IxR _ (rIxT K) from ix_tup) (pv 2) pe_int (fun _ _ => rfl)) pe_str (nomark _))) (fun _ _ _ _ _ => (pe_ix (show IxR _ (rIxT K) from ix_tup) (pv 2) pe_int (fun _ _ => rfl))))) pa_nil)))
(pss_cons (ps_set (i := 4) sc_past.nd rfl (.inl rfl) (pe_lst pa_nil))
(pss_cons (ps_for PassesOwn.never rfl (pi_list (pv 3)) (pg_name (i := 5) sc_past.nd rfl (.inl rfl))
    (pss_cons (ps_set (i := 6) sc_past.nd rfl (.inl rfl) (pe_un un_neg pe_int))
    (pss_cons (ps_for PassesOwn.never rfl (pi_range1 rfl T.range (pa_cons (pe_callB (show CallR _ (.builtin "len") (rLenQ K) from call_lenD') (by rfl) T.len PySem.boot_len (pa_cons (pv 4) pa_nil)) pa_nil)) (pg_name (i := 7) sc_past.nd rfl (.inl rfl))
        (pss_cons (ps_set (i := 8) sc_past.nd rfl (.inl rfl) (pe_ix (show IxR _ (rIxL K) from ix_list) (pe_ix (show IxR _ (rIxL K) from ix_list) (pv 4) (pv 7) (fun _ _ => rfl)) pe_int (fun _ _ => rfl)))
        (pss_cons (ps_set (i := 9) sc_past.nd rfl (.inl rfl) (pe_and (pe_cmpR op_eq (pe_dget hu (pv 1) (pe_tup (pa_cons pe_str (pa_cons (pv 5) pa_nil))) (fun _ _ => rfl)) (pe_dget hu (pv 1) (pe_tup (pa_cons pe_str (pa_cons (pv 8) pa_nil))) (fun _ _ => rfl)) (nomark _)) (pe_one (pe_cmpR op_eq (pe_dget hu (pv 1) (pe_tup (pa_cons pe_str (pa_cons (pv 5) pa_nil))) (fun _ _ => rfl)) (pe_dget hu (pv 1) (pe_tup (pa_cons pe_str (pa_cons (pv 8) pa_nil))) (fun _ _ => rfl)) (nomark _)))))
        (pss_one (ps_if (PW.pt (pw_and (pt_cmpR op_lt (pv 6) pe_int (nomark _)) (pw_and (pt_val (pv 9)) (pw_and (pt_cmpR op_lt (pe_callB (show CallR _ (.builtin "len") (rLenQ K) from call_lenD') (by rfl) T.len PySem.boot_len (pa_cons (pe_ix (show IxR _ (rIxL K) from ix_list) (pv 4) (pv 7) (fun _ _ => rfl)) pa_nil)) pe_int (nomark _)) (pw_and1 (pt_cmpR op_eq (C8.pe_c c_pick hr (by omega) (by rfl) (pa_cons (pv 0) (pa_cons pe_int pa_nil))) pe_int (nomark _)))))))
            (pss_one (ps_set (i := 6) sc_past.nd rfl (.inl rfl) (pv 7)))
          pss_nil)))))
    (pss_one (ps_if (pt_cmpR op_lt (pv 6) pe_int (nomark _))
        (pss_one (ps_expr (pe_bm PySem.F.plainAttrs_list PySem.F.slot_list_append PySem.F.type_list_append mt_append (pv 4) (pa_cons (pe_lst (pa_cons (pv 5) pa_nil)) pa_nil))))
      (pss_one (ps_asg (pe_op op_cat (pe_ix (show IxR _ (rIxL K) from ix_list) (pv 4) (pv 6) (fun _ _ => rfl)) (pe_lst (pa_cons (pv 5) pa_nil))) (pg_sub (pv 4) (pv 6) set_list))))))))
(pss_cons (ps_set (i := 10) sc_past.nd rfl (.inl rfl) pe_dnewK)
(C8.pss_cut (ps_if (PW.pt (pw_and (pt_cmpR op_gt (pe_callB (show CallR _ (.builtin "len") (rLenQ K) from call_lenD') (by rfl) T.len PySem.boot_len (pa_cons (pv 3) pa_nil)) pe_int (nomark _)) (pw_and1 (pt_cmpR op_eq (C8.pe_c c_pick hr (by omega) (by rfl) (pa_cons (pv 0) (pa_cons pe_int pa_nil))) pe_int (nomark _)))))
    (pss_cons (ps_set (i := 11) sc_past.nd rfl (.inl rfl) (C8.pe_c c_names hr (by omega) (by rfl) (pa_cons (pv 0) (pa_cons pe_int (pa_cons (pv 3) pa_nil)))))
    (pss_one (ps_dput hu (pv 10) (pe_ix (show IxR _ (rIxL K) from ix_list) (pv 11) pe_int (fun _ _ => rfl)) (pe_tup (pa_cons (pe_tup (pa_cons (C8.pe_c c_one hr (by omega) (by rfl) (pa_cons (pv 0) (pa_cons (pv 3) pa_nil))) (pa_cons (pe_ix (show IxR _ (rIxL K) from ix_list) (pv 11) pe_int (fun _ _ => rfl)) pa_nil))) pa_nil)) rfl)))
  pss_nil)
(pss_cons (ps_set (i := 12) sc_past.nd rfl (.inl rfl) pe_dnewT)
(pss_cons (ps_lock (ps_for PassesOwn.never rfl (pi_keys (pv 1)) (pg_name (i := 2) sc_past.nd rfl (.inl rfl))
    (pss_one (ps_dput hu (pv 12) (pv 2) (pe_dget hu (pv 1) (pv 2) (fun _ _ => rfl)) rfl))))
(pss_one (ps_ret (pe_tup (pa_cons (pv 12) (pa_cons (pe_callTy (show CallR _ (.type "tuple") (rTupOf K) from call_tupD) (by rfl) T.tuple (by decide +kernel) (pa_cons (pe_callB (show CallR _ (.builtin "sorted") (rSortedTx K) from cr_sortedTx) (by rfl) T.sorted (by decide +kernel) (pa_cons (pe_lc (own := [("group", 13)]) rfl sc_past.nd (pi_list (pv 4)) (blkOk_by (own := [("group", 13)]) (N := N_past) (sc := defScope s_past) (by decide +kernel)) (fun _ _ _ _ _ => (pg_name (i := 13) sc_past.nd rfl (.inl rfl))) (fun _ _ _ _ _ => pts_nil) (fun _ _ _ _ _ => (pe_callTy (show CallR _ (.type "tuple") (rTupOf K) from call_tupD) (by rfl) T.tuple (by decide +kernel) (pa_cons (pv 13) pa_nil)))) pa_nil)) pa_nil)) (pa_cons (pv 10) pa_nil))))))))))))), ?_⟩
    have fr : ∀ {H' : Hp} {a : Addr}, But2 p g H H' → H' a = none → PoolAt H' p g → H a = none ∧ a ≠ p ∧ a ≠ g := fun {H' a} e na hP' =>
      ⟨e.free na hP'.np hP'.ng, fun z => hP'.np (by rw [← z]; exact na), fun z => hP'.ng (by rw [← z]; exact na)⟩
    walk_at "go"
    refine units_read (i := 1) (j := 2) rfl rfl (show (2 : Nat) < 14 by decide) ha dk.d fun Dl H1 s1 nDl hDl => ?_
    walk_at "go"
    refine units_sort dk.d hDl fun ou U nou us => ?_
    have s2 : Same H (upd H1 ou (.lst (U.map V.str))) := s1.trans (same_upd nou)
    have hou : upd H1 ou (.lst (U.map V.str)) ou = some (.lst (U.map V.str)) := upd_same
    generalize upd H1 ou (.lst (U.map V.str)) = H2 at s2 hou
    have hP2 := hP.keep s2
    have lU := us.ln dk.d
    have nouH := s1.free nou
    have nop : ou ≠ p := fun z => hP.np (by rw [← z]; exact nouH)
    have nog : ou ≠ g := fun z => hP.ng (by rw [← z]; exact nouH)
    walk_at "go"
    refine ⟨Nat.zero_le _, fun gr ngr => ?_⟩
    have ngrH := s2.free ngr
    have ngp : gr ≠ p := fun z => hP2.np (by rw [← z]; exact ngr)
    have ngg : gr ≠ g := fun z => hP2.ng (by rw [← z]; exact ngr)
    have nog2 : ou ≠ gr := ne_of_none hou ngr
    have c0 : PC H p g ou gr U [] 0 (upd H2 gr (.lst [])) := ⟨hP2.keep (same_upd ngr), (But2.of s2).trans (But2.of (same_upd ngr)), same_upd ngr _ _ hou, upd_same, fun q hq => (nomatch hq), Nat.le_refl _⟩
    have nap : a ≠ p := fun z => by
      obtain ⟨_, _, _, _, h1, _⟩ := hP
      rw [← z, ha] at h1
      cases h1
    have nag : a ≠ g := fun z => by
      obtain ⟨_, _, _, _, _, h1, _⟩ := hP
      rw [← z, ha] at h1
      cases h1
    walk_at "go"
    refine ⟨ou, rfl, ⟨_, SqL.of c0.uu⟩, ?_⟩
    refine for_list (K := K) (a := ou) (xs := U.map V.str) (fun i σ H' => ∃ (gs : List (Addr × List Str)) (x2 x5 x6 x7 x8 x9 : Option V), σ = [some (.ref p), some (.ref a), x2, some (.ref ou), some (.ref gr), x5, x6, x7, x8, x9, none, none, none, none] ∧ PC H p g ou gr U gs i H')
      ⟨[], _, none, none, none, none, none, rfl, c0⟩ (fun i σ H3 _ hW => ?_) (fun i z σ H3 hz hW => ?_) (fun σ H3 hW => ?_)
    · obtain ⟨_, _, _, _, _, _, _, _, c⟩ := hW
      exact SqL.of c.uu
    · obtain ⟨gs, x2, x5, x6, x7, x8, x9, rfl, c3⟩ := hW
      obtain ⟨u, hu2, rfl⟩ := get_map hz
      have mu := List.mem_of_getElem? hu2
      have hiU : i < U.length := (List.getElem?_eq_some_iff.mp hu2).1
      obtain ⟨bu, eu, _⟩ := yrs_of dk.d (us.pm.mem_iff.mp mu)
      have lgs := c3.ln
      walk_at "go"
      refine r_lenL (SqL.of c3.gg) ?_
      walk_at "go"
      rw [List.length_map]
      refine ⟨_, rfl, by omega, by omega, ?_⟩
      rw [Int.toNat_natCast]
      refine for_range (lo := 0) (n := gs.length) (fun j σ H' => ∃ (fo : Int) (x7 x8 x9 : Option V), σ = [some (.ref p), some (.ref a), x2, some (.ref ou), some (.ref gr), some (.str u), some (.int fo), x7, x8, x9, none, none, none, none] ∧ PC H p g ou gr U gs i H' ∧ (fo < 0 ∨ (0 ≤ fo ∧ fo < gs.length)))
        ⟨_, _, _, _, rfl, c3, .inl (by decide)⟩ (fun j σ H4 hj hW => ?_) (fun σ H4 hW => ?_)
      · obtain ⟨fo, y7, y8, y9, rfl, c4, hfo⟩ := hW
        obtain ⟨a1, a2, a3, a4, a5, a6, a7⟩ := c4.el _ (List.getElem_mem hj)
        obtain ⟨v, r, hv⟩ : ∃ v r, gs[j].2 = v :: r := by
          cases h : gs[j].2 with
          | nil => exact absurd h a2
          | cons v r => exact ⟨v, r, rfl⟩
        have mv : v ∈ U := a3 v (by rw [hv]; exact .head _)
        obtain ⟨bv, ev, _⟩ := yrs_of dk.d (us.pm.mem_iff.mp mv)
        have gj : (gs.map fun q => V.ref q.1)[j]? = some (.ref gs[j].1) := by
          rw [List.getElem?_map, List.getElem?_eq_getElem hj]
          rfl
        have ha4 := c4.bt _ _ ha nap nag
        walk_at "go"
        refine r_ixL (SqL.of c4.gg) (atI_of (by omega) gj) ?_
        walk_at "go"
        refine r_ixL (SqL.of a1) (atI_of (j := 0) (v := .str v) rfl (by rw [hv]; rfl)) ?_
        walk_at "go"
        refine r_alike (i := 1) (ju := 5) (jv := 8) rfl rfl rfl ha4 bu eu bv ev fun t H5 s5 => ?_
        have c5 := c4.same s5
        walk_at "go"
        refine r_ite (fun e1 => ?_) (fun e1 => ?_)
        · walk_at "go"
          refine r_ite (fun e2 => ?_) (fun e2 => ?_)
          · walk_at "go"
            refine r_ixL (SqL.of c5.gg) (atI_of (by omega) gj) ?_
            walk_at "go"
            refine r_lenL (SqL.of (s5 _ _ a1)) ?_
            walk_at "go"
            refine r_ite (fun e3 => ?_) (fun e3 => ?_)
            · walk_at "go"
              refine ⟨p, g, 2, rfl, c5.pl, by decide, fun r6 H6 hP6 e6 r60 r61 => ?_⟩
              have c6 := c5.call nop nog ngp ngg hP6 e6
              walk_at "go"
              refine r_ite (fun e4 => ?_) (fun e4 => ?_)
              · walk_at "go"
                exact ⟨_, _, _, _, rfl, c6, .inr (by omega)⟩
              · walk_at "go"
                exact ⟨_, _, _, _, rfl, c6, hfo⟩
            · walk_at "go"
              refine r_ite (fun z => nomatch z) (fun _ => ?_)
              walk_at "go"
              exact ⟨_, _, _, _, rfl, c5, hfo⟩
          · walk_at "go"
            refine r_ite (fun z => nomatch z) (fun _ => ?_)
            walk_at "go"
            exact ⟨_, _, _, _, rfl, c5, hfo⟩
        · walk_at "go"
          refine r_ite (fun z => nomatch z) (fun _ => ?_)
          walk_at "go"
          exact ⟨_, _, _, _, rfl, c5, hfo⟩
      · obtain ⟨fo, y7, y8, y9, rfl, c4, hfo⟩ := hW
        walk_at "go"
        refine r_ite (fun e1 => ?_) (fun e1 => ?_)
        · walk_at "go"
          refine ⟨tyL c4.gg, ?_⟩
          walk_at "go"
          refine ⟨sz_le (by simp), fun nl nnl => ?_⟩
          walk_at "go"
          have c5 := c4.same (same_upd (o := .lst [.str u]) nnl)
          have hnl : upd H4 nl (.lst [.str u]) nl = some (.lst ([u].map V.str)) := upd_same
          have nlp : nl ≠ p := fun z => c4.pl.np (by rw [← z]; exact nnl)
          have nlg : nl ≠ g := fun z => c4.pl.ng (by rw [← z]; exact nnl)
          have nlr : nl ≠ gr := fun z => by
            have := c4.gg
            rw [← z, nnl] at this
            cases this
          generalize upd H4 nl (.lst [.str u]) = H5 at c5 hnl
          refine r_append c5.gg (by rw [List.length_map]; omega) ?_
          walk_at "go"
          have c6 := c5.write (gs' := gs ++ [(nl, [u])]) (m' := i + 1) ngrH ngp ngg nog2 (fun q hq => by
            rcases List.mem_append.mp hq with hq | hq
            · obtain ⟨a1, a2, a3, a4, a5, a6, a7⟩ := c5.el q hq
              exact ⟨a1, a2, a3, a4, a5, a6, by omega⟩
            · obtain rfl := List.mem_singleton.mp hq
              exact ⟨hnl, by simp, fun x hx => by rw [List.mem_singleton.mp hx]; exact mu, nlp, nlg, nlr, by simp⟩) (by rw [List.length_append, List.length_singleton]; omega)
          rw [List.map_append] at c6
          exact ⟨_, _, _, _, _, _, _, rfl, c6⟩
        · have e1' := of_decide_eq_false e1
          obtain ⟨j, rfl⟩ : ∃ j : Nat, fo = j := ⟨fo.toNat, by omega⟩
          have hj : j < gs.length := by omega
          obtain ⟨a1, a2, a3, a4, a5, a6, a7⟩ := c4.el _ (List.getElem_mem hj)
          have gj : (gs.map fun q => V.ref q.1)[j]? = some (.ref gs[j].1) := by
            rw [List.getElem?_map, List.getElem?_eq_getElem hj]
            rfl
          walk_at "go"
          refine r_ixL (SqL.of c4.gg) (atI_of rfl gj) ?_
          walk_at "go"
          refine ⟨sz_le (by simp), fun nl nnl => ?_⟩
          have c5 := c4.same (same_upd (o := .lst [.str u]) nnl)
          have hnl : upd H4 nl (.lst [.str u]) nl = some (.lst ([u].map V.str)) := upd_same
          have a15 := same_upd (o := .lst [.str u]) nnl _ _ a1
          generalize upd H4 nl (.lst [.str u]) = H5 at c5 hnl a15
          refine r_cat a15 hnl (sz_le (by rw [List.length_map, List.length_map, List.length_singleton]; omega)) fun o no => ?_
          have c6 := c5.same (same_upd (o := .lst (gs[j].2.map V.str ++ [u].map V.str)) no)
          have hno : upd H5 o (.lst (gs[j].2.map V.str ++ [u].map V.str)) o = some (.lst ((gs[j].2 ++ [u]).map V.str)) := by rw [upd_same, List.map_append]
          have nop5 : o ≠ p := fun z => c5.pl.np (by rw [← z]; exact no)
          have nog5 : o ≠ g := fun z => c5.pl.ng (by rw [← z]; exact no)
          have nor5 : o ≠ gr := fun z => by
            have := c5.gg
            rw [← z, no] at this
            cases this
          generalize upd H5 o (.lst (gs[j].2.map V.str ++ [u].map V.str)) = H6 at c6 hno
          walk_at "go"
          refine r_setL c6.gg (by rw [List.length_map]; exact ixN_nat hj) ?_
          have c7 := c6.write (gs' := gs.set j (o, gs[j].2 ++ [u])) (m' := i + 1) ngrH ngp ngg nog2 (fun q hq => by
            rcases List.mem_or_eq_of_mem_set hq with hq | hq
            · obtain ⟨a1, a2, a3, a4, a5, a6, a7⟩ := c6.el q hq
              exact ⟨a1, a2, a3, a4, a5, a6, by omega⟩
            · subst hq
              refine ⟨hno, by simp, fun x hx => ?_, nop5, nog5, nor5, by rw [List.length_append, List.length_singleton]; omega⟩
              rcases List.mem_append.mp hx with hx | hx
              · exact a3 x hx
              · rw [List.mem_singleton.mp hx]
                exact mu) (by rw [List.length_set]; omega)
          rw [List.map_set] at c7
          walk_at "go"
          exact ⟨_, _, _, _, _, _, _, rfl, c7⟩
    · obtain ⟨gs, x2, x5, x6, x7, x8, x9, rfl, c3⟩ := hW
      rw [List.length_map] at c3
      walk_at "go"
      intro sh nsh
      have shp : sh ≠ p := fun z => c3.pl.np (by rw [← z]; exact nsh)
      have shg : sh ≠ g := fun z => c3.pl.ng (by rw [← z]; exact nsh)
      have nshH := c3.bt.free nsh c3.pl.np c3.pl.ng
      have c4 := c3.same (same_upd (o := .dK []) nsh)
      have hsh : upd H3 sh (.dK []) sh = some (.dK []) := upd_same
      have n1 : ou ≠ sh := ne_of_none c3.uu nsh
      have n2 : gr ≠ sh := ne_of_none c3.gg nsh
      have n3 : ∀ q ∈ gs, q.1 ≠ sh := fun q hq => ne_of_none (c3.el q hq).1 nsh
      generalize upd H3 sh (.dK []) = H4 at c4 hsh
      walk_at "go"
      refine ⟨fun σ H' => ∃ (z : Option (Str × Str × Str)) (x11 : Option V), σ = [some (.ref p), some (.ref a), x2, some (.ref ou), some (.ref gr), x5, x6, x7, x8, x9, some (.ref sh), x11, none, none] ∧ PC H p g ou gr U gs U.length H' ∧ ShAt H' sh z, ?_, fun σ H5 hM => ?_⟩
      · walk_at "go"
        refine r_lenL (SqL.of c4.uu) ?_
        walk_at "go"
        rw [List.length_map]
        refine r_ite (fun e1 => ?_) (fun e1 => ?_)
        · walk_at "go"
          refine ⟨p, g, 3, rfl, c4.pl, by decide, fun r5 H5 hP5 e5 r50 r51 => ?_⟩
          have c5 := c4.call nop nog ngp ngg hP5 e5
          have hsh5 := e5 _ _ hsh shp shg
          walk_at "go"
          refine r_ite (fun e2 => ?_) (fun e2 => ?_)
          · walk_at "go"
            refine ⟨p, g, ou, 2, U, rfl, c5.pl, by decide, by decide, SqL.of c5.uu, nop, nog, fun sp nm H6 hP6 e6 nsp hsp lnm knm => ?_⟩
            have c6 := c5.call nop nog ngp ngg hP6 e6
            have hsh6 := e6 _ _ hsh5 shp shg
            have nspp : sp ≠ p := fun z => hP5.np (by rw [← z]; exact nsp)
            have nspg : sp ≠ g := fun z => hP5.ng (by rw [← z]; exact nsp)
            obtain ⟨m0, m1, rfl⟩ : ∃ m0 m1, nm = [m0, m1] := by
              match nm, lnm with
              | [m0, m1], _ => exact ⟨m0, m1, rfl⟩
              | [], h => simp at h
              | [_], h => simp at h
              | _ :: _ :: _ :: r, h => simp at h; omega
            have e1' := of_decide_eq_true e1
            have neU : U ≠ [] := fun z => by
              rw [z] at e1'
              simp at e1'
            walk_at "go"
            refine ⟨p, g, ou, U.map V.str, rfl, c6.pl, SqL.of c6.uu, by simp [neU], by rw [List.length_map]; omega, nop, nog, fun v H7 hv hP7 e7 => ?_⟩
            obtain ⟨wd, hwd, rfl⟩ := List.mem_map.mp hv
            have c7 := c6.call nop nog ngp ngg hP7 e7
            have hsh7 := e7 _ _ hsh6 shp shg
            have hsp7 := e7 _ _ hsp nspp nspg
            walk_at "go"
            refine r_ixL (SqL.of hsp7) (atI_of (j := 1) (v := .str m1) rfl rfl) ?_
            walk_at "go"
            refine ⟨sz_le (by simp), fun t2 nt2 => ?_⟩
            walk_at "go"
            refine ⟨sz_le (by simp), fun t1 nt1 => ?_⟩
            walk_at "go"
            have s79 : Same H7 (upd (upd H7 t2 (.tup [.str wd, .str m1])) t1 (.tup [.ref t2])) := (same_upd nt2).trans (same_upd nt1)
            have h1 : upd (upd H7 t2 (.tup [.str wd, .str m1])) t1 (.tup [.ref t2]) t1 = some (.tup [.ref t2]) := upd_same
            have h2 : upd (upd H7 t2 (.tup [.str wd, .str m1])) t1 (.tup [.ref t2]) t2 = some (.tup [.str wd, .str m1]) := same_upd nt1 _ _ upd_same
            generalize upd (upd H7 t2 (.tup [.str wd, .str m1])) t1 (.tup [.ref t2]) = H9 at s79 h1 h2
            have c9 := c7.same s79
            have hsh9 := s79 _ _ hsh7
            refine r_ixL (SqL.of (s79 _ _ hsp7)) (atI_of (j := 0) (v := .str m0) rfl rfl) ?_
            refine ⟨sh, _, rfl, DPut.k (k := Sum.inr m0) hsh9 (sz_lt (by simp)), ?_⟩
            walk_at "go"
            refine ⟨some (m0, wd, m1), _, rfl, ⟨c9.pl.put shp shg, c9.bt.mut nshH, by rw [upd_ne n1]; exact c9.uu, by rw [upd_ne n2]; exact c9.gg, fun q hq => ?_, c9.ln⟩, t1, t2, upd_same, by rw [upd_ne (ne_of h1 hsh9 (fun z => nomatch z))]; exact h1, by rw [upd_ne (ne_of h2 hsh9 (fun z => nomatch z))]; exact h2, knm m0 (.head _), dk.us us wd hwd, knm m1 (.tail _ (.head _))⟩
            obtain ⟨a1, a2⟩ := c9.el q hq
            exact ⟨by rw [upd_ne (n3 q hq)]; exact a1, a2⟩
          · walk_at "go"
            exact ⟨none, _, rfl, c5, hsh5⟩
        · walk_at "go"
          refine r_ite (fun z => nomatch z) (fun _ => ?_)
          walk_at "go"
          exact ⟨none, _, rfl, c4, hsh⟩
      · obtain ⟨z, x11, rfl, c5, hz⟩ := hM
        walk_at "go"
        intro h nh
        have c6 := c5.same (same_upd (o := .dT []) nh)
        have hz6 := hz.keep (same_upd (o := .dT []) nh)
        have hh6 : upd H5 h (.dT []) h = some (.dT []) := upd_same
        have nhH := c5.bt.free nh c5.pl.np c5.pl.ng
        generalize upd H5 h (.dT []) = H6 at c6 hz6 hh6
        have ha6 := c6.bt _ _ ha nap nag
        have nah : a ≠ h := ne_of_none ha nhH
        walk_at "go"
        refine ⟨a, .dT kvs, ha6, trivial, fun od => ?_⟩
        walk_at "go"
        refine ⟨_, rfl, a, od, rfl, .inr ⟨kvs, upd_same, ?_⟩⟩
        refine for_it walk_keysT (fun i σ H' => ∃ x2 : Option V, σ = [some (.ref p), some (.ref a), x2, some (.ref ou), some (.ref gr), x5, x6, x7, x8, x9, some (.ref sh), x11, some (.ref h), none] ∧ H' a = some (.frz od (.dT kvs)) ∧ H' h = some (.dT (kvs.take i)) ∧ ∀ b o, H6 b = some o → b ≠ a → b ≠ h → H' b = some o)
          ⟨_, rfl, upd_same, by rw [upd_ne nah.symm]; exact hh6, fun b o e hb _ => by rw [upd_ne hb]; exact e⟩ (fun i σ H' _ hW => ?_) (fun i x σ H7 H8 hi hW hy => ?_) (fun σ H7 hW => ?_)
        · obtain ⟨_, _, z, _⟩ := hW
          exact z
        · obtain ⟨y2, rfl, h1, h2, h3⟩ := hW
          obtain ⟨rfl, kk, v, t, hk, rfl, ht⟩ := hy
          walk_at "go"
          refine ⟨_, rfl, _, rfl, a, v, rfl, .inr ⟨kvs, kk, t, .inr ⟨od, h1⟩, rfl, ht, (mem_valV dk.d.nd (List.mem_of_getElem? hk)).symm⟩, ?_⟩
          walk_at "go"
          have hnew : valV (kvs.take i) kk = none := by
            cases hv : valV (kvs.take i) kk with
            | none => rfl
            | some y =>
              obtain ⟨j, hj⟩ := List.mem_iff_getElem?.mp (valV_mem hv)
              have hji : j < i := by
                have := (List.getElem?_eq_some_iff.mp hj).1
                rw [List.length_take] at this
                omega
              rw [List.getElem?_take_of_lt hji] at hj
              have e1 : (kvs.map (·.1))[j]? = some kk := by rw [List.getElem?_map, hj]; rfl
              have e2 : (kvs.map (·.1))[i]? = some kk := by rw [List.getElem?_map, hk]; rfl
              have := nd_ix dk.d.nd e1 e2
              omega
          refine ⟨h, _, rfl, DPut.t (k := kk) h2 ht (sz_lt (by have := dk.d.ln; rw [List.length_take]; omega)), ?_⟩
          refine ⟨_, rfl, by rw [upd_ne nah]; exact h1, ?_, fun b o e hb hb2 => by rw [upd_ne hb2]; exact h3 b o e hb hb2⟩
          rw [upd_same, putK_new _ hnew, List.take_add_one, hk]
          rfl
        · obtain ⟨y2, rfl, h1, h2, h3⟩ := hW
          rw [List.take_length] at h2
          refine ⟨h1, ?_⟩
          have hh8 : upd H7 a (.dT kvs) h = some (.dT kvs) := by rw [upd_ne nah.symm]; exact h2
          have k8 : ∀ b o, H6 b = some o → b ≠ h → upd H7 a (.dT kvs) b = some o := fun b o e hb => by
            by_cases hba : b = a
            · subst hba
              rw [ha6] at e
              cases e
              exact upd_same
            · rw [upd_ne hba]
              exact h3 b o e hba hb
          generalize upd H7 a (.dT kvs) = H8 at hh8 k8
          have noth : ∀ {b : Addr} {o : HO}, H6 b = some o → (∀ kv, o ≠ .dT kv) → b ≠ h := fun e n z => by
            rw [z, hh6] at e
            exact n _ (Option.some.inj e).symm
          have c8 : PC H p g ou gr U gs U.length H8 := by
            obtain ⟨⟨np, ns, m, c, z1, z2, r⟩, bt, uu, gg, el, ln⟩ := c6
            refine ⟨⟨np, ns, m, c, k8 _ _ z1 (noth z1 (fun _ z => nomatch z)), k8 _ _ z2 (noth z2 (fun _ z => nomatch z)), r⟩, fun b o e h1 h2 => k8 _ _ (bt b o e h1 h2) (ne_of_none e nhH), k8 _ _ uu (noth uu (fun _ z => nomatch z)), k8 _ _ gg (noth gg (fun _ z => nomatch z)), fun q hq => ?_, ln⟩
            obtain ⟨a1, a2⟩ := el q hq
            exact ⟨k8 _ _ a1 (noth a1 (fun _ z => nomatch z)), a2⟩
          have hz8 : ShAt H8 sh z := by
            cases z with
            | none => exact k8 _ _ hz6 (noth hz6 (fun _ z => nomatch z))
            | some zz =>
              obtain ⟨x, y, v⟩ := zz
              obtain ⟨t1, t2, g1, g2, g3, r⟩ := hz6
              exact ⟨t1, t2, k8 _ _ g1 (noth g1 (fun _ z => nomatch z)), k8 _ _ g2 (noth g2 (fun _ z => nomatch z)), k8 _ _ g3 (noth g3 (fun _ z => nomatch z)), r⟩
          walk_at "go"
          refine r_lc ?_
          walk_at "go"
          refine ⟨gr, rfl, ⟨_, SqL.of c8.gg⟩, fun Dg nDg => ?_⟩
          have lgs := c8.ln
          refine lc_it (walk_list (K := K) (a := gr) (xs := gs.map fun q => V.ref q.1)) (fun i H' => Same H8 H' ∧ ∃ ts : List (Addr × List Str), H' Dg = some (.lst (ts.map fun q => V.ref q.1)) ∧ RowsAt H' ts ∧ ts.map (·.2) = (gs.take i).map (·.2)) ⟨same_upd nDg, [], upd_same, fun q hq => (nomatch hq), rfl⟩ (fun i H' _ h => SqL.of (h.1 _ _ c8.gg)) (fun j x H9 Ha hj hP hy => ?_) (fun H9 hP => ?_)
          · obtain ⟨rfl, hx⟩ := hy
            obtain ⟨q0, hq0, rfl⟩ := get_map hx
            obtain ⟨s9, ts, ht1, ht2, ht3⟩ := hP
            obtain ⟨a1, a2⟩ := c8.el q0 (List.mem_of_getElem? hq0)
            rw [List.length_map] at hj
            walk_at "go"
            refine ⟨rfl, ?_⟩
            refine r_yes ?_
            walk_at "go"
            refine ⟨q0.1, _, rfl, .inl ⟨SqL.of (s9 _ _ a1), fun t nt => ?_⟩⟩
            have lts : ts.length ≤ 60 := by
              have e := congrArg List.length ht3
              rw [List.length_map, List.length_map, List.length_take] at e
              omega
            have sT := same_upd (o := .tup (q0.2.map V.str)) nt
            refine ⟨_, sT _ _ ht1, sz_lt (by rw [List.length_map]; omega), Same.mut (s9.trans sT) nDg, ts ++ [(t, q0.2)], by rw [upd_same, List.map_append]; rfl, fun z hz' => ?_, ?_⟩
            · have nD : ∀ {b : Addr} {xs : List V}, upd Ha t (.tup (q0.2.map V.str)) b = some (.tup xs) → upd (upd Ha t (.tup (q0.2.map V.str))) Dg (.lst (ts.map (fun q => V.ref q.1) ++ [.ref t])) b = some (.tup xs) := fun {b xs} e => by
                rw [upd_ne (ne_of e (sT _ _ ht1) (fun z => nomatch z))]
                exact e
              rcases List.mem_append.mp hz' with hz' | hz'
              · exact nD (sT _ _ (ht2 z hz'))
              · obtain rfl := List.mem_singleton.mp hz'
                exact nD upd_same
            · rw [List.map_append, ht3, List.take_add_one, hq0, List.map_append]
              rfl
          · obtain ⟨s9, ts, ht1, ht2, ht3⟩ := hP
            rw [List.length_map, List.take_length] at ht3
            have tin : ∀ q ∈ ts, q.2 ≠ [] ∧ ∀ x ∈ q.2, x ∈ U := fun q hq => by
              have m : q.2 ∈ ts.map (·.2) := List.mem_map.mpr ⟨q, hq, rfl⟩
              rw [ht3] at m
              obtain ⟨q1, hq1, e⟩ := List.mem_map.mp m
              rw [← e]
              obtain ⟨_, a2, a3, _⟩ := c8.el q1 hq1
              exact ⟨a2, a3⟩
            obtain ⟨kA, hkA⟩ : ∃ kA : Addr → List Str, ∀ q ∈ ts, kA q.1 = q.2 := by
              classical
              refine ⟨fun t => if h : ∃ ss : List Str, H9 t = some (.tup (ss.map V.str)) then h.choose else [], fun q hq => ?_⟩
              have h : ∃ ss : List Str, H9 q.1 = some (.tup (ss.map V.str)) := ⟨_, ht2 q hq⟩
              dsimp only
              rw [dif_pos h]
              exact str_inj (HO.tup.inj (Option.some.inj (h.choose_spec.symm.trans (ht2 q hq))))
            walk_at "go"
            refine ⟨Dg, ts.map (·.1), kA, rfl, SqL.of (by rw [List.map_map]; exact ht1), fun t ht => ?_, fun ts' sl pm nsl => ?_⟩
            · obtain ⟨q, hq, rfl⟩ := List.mem_map.mp ht
              rw [hkA q hq]
              exact ⟨ht2 q hq, (tin q hq).1⟩
            · walk_at "go"
              refine ⟨sl, _, rfl, .inl ⟨SqL.of upd_same, fun tp ntp => ?_⟩⟩
              walk_at "go"
              refine ⟨sz_le (by simp), fun o no => ?_⟩
              have sF := ((s9.trans (same_upd (o := .lst (ts'.map V.ref)) nsl)).trans (same_upd (o := .tup (ts'.map V.ref)) ntp)).trans (same_upd (o := .tup [.ref h, .ref tp, .ref sh]) no)
              have s9F := ((same_upd (o := .lst (ts'.map V.ref)) nsl).trans (same_upd (o := .tup (ts'.map V.ref)) ntp)).trans (same_upd (o := .tup [.ref h, .ref tp, .ref sh]) no)
              have cF := c8.same sF
              have inT : ∀ t ∈ ts', ∃ q ∈ ts, q.1 = t := fun t ht => List.mem_map.mp (pm.mem_iff.mp ht)
              refine q o h tp sh (ts'.map fun t => (t, kA t)) z _ cF.pl cF.bt upd_same nhH (sF _ _ hh8) ?_ (fun q hq => ?_) (fun k hk x hx => ?_) (hz8.keep sF)
              · rw [List.map_map]
                exact same_upd no _ _ upd_same
              · obtain ⟨t, ht, rfl⟩ := List.mem_map.mp hq
                obtain ⟨q1, hq1, rfl⟩ := inT t ht
                show _ = some (HO.tup ((kA q1.1).map V.str))
                rw [hkA q1 hq1]
                exact s9F _ _ (ht2 q1 hq1)
              · obtain ⟨q2, hq2, rfl⟩ := List.mem_map.mp hk
                obtain ⟨t, ht, rfl⟩ := List.mem_map.mp hq2
                obtain ⟨q1, hq1, rfl⟩ := inT t ht
                have hx : x ∈ kA q1.1 := hx
                rw [hkA q1 hq1] at hx
                exact dk.us us x ((tin q1 hq1).2 x hx)
end
end
section
open PySem PySem.Spec PyProof.Rows L2
/-! ### (t, x) != (t, x) -/
def rNeSame : R2 := fun x y H Q => ∃ (a b t : Addr) (z : Str), x = .ref a ∧ y = .ref b ∧ H a = some (.tup [.ref t, .str z]) ∧ H b = some (.tup [.ref t, .str z]) ∧ Q (.bl false) H
theorem op_neSame {X : Cx} (hu : X.A.units + 1 < cLine) : OpR X (compareOp .NotEq) rNeSame := by
  intro pins s σ H x y v u Q I rx ry h
  obtain ⟨a, b, t, z, rfl, rfl, ha, hb, q⟩ := h
  obtain rfl : v = Value.ref a := rx
  obtain rfl : u = Value.ref b := ry
  obtain ⟨_, its, r1, o1, ho1, hc1, n1, hd1⟩ := I.hok _ _ ha
  obtain ⟨_, jts, r2, o2, ho2, hc2, n2, hd2⟩ := I.hok _ _ hb
  obtain ⟨u1, u2, rfl, e1, t1, rfl⟩ := r1.two
  obtain ⟨w1, w2, rfl, e2, t2, rfl⟩ := r2.two
  obtain rfl : u1 = Value.ref t := e1
  obtain rfl : w1 = Value.ref t := e2
  have ne := SeqAt.RcNeAt.tuples (A := X.A) (s := s) (e := fun _ => true) (l := a) (b := b) ⟨o1, ho1, hc1, n1, hd1⟩ ⟨o2, ho2, hc2, n2, hd2⟩ (by omega) (fun j h1 h2 => by
    match j with
    | 0 => exact SeqAt.EqAt.same _
    | 1 =>
      have z := SeqAt.EqAt.str_str (A := X.A.in1) (s := s) z t1 z t2
      rw [beq_self_eq_true] at z
      exact z
    | j + 2 => exact absurd h1 (by simp))
  exact ne X.prog X.w X.xe _ ⟨.bl false, H, I, rfl, q⟩
/-- lists and dicts may change -/
def Soft (H H' : Hp) : Prop := ∀ b o, H b = some o → (∀ xs, o ≠ .lst xs) → (∀ kv, o ≠ .dT kv) → H' b = some o
theorem Soft.refl {H : Hp} : Soft H H := fun _ _ e _ _ => e
theorem Soft.trans {H H1 H2 : Hp} (a : Soft H H1) (b : Soft H1 H2) : Soft H H2 := fun c o e n1 n2 => b c o (a c o e n1 n2) n1 n2
theorem Soft.of {H H' : Hp} (s : Same H H') : Soft H H' := fun c o e _ _ => s c o e
theorem Soft.tup {H H' : Hp} (e : Soft H H') {a : Addr} {xs : List V} (h : H a = some (.tup xs)) : H' a = some (.tup xs) := e _ _ h (fun _ z => nomatch z) (fun _ z => nomatch z)
theorem PoolAt.soft {H H' : Hp} {p g : Addr} (a : PoolAt H p g) (e : But2 p g H H') : Soft H H' := fun b o h n1 _ => by
  obtain ⟨_, ns, m, c, h1, h2, _⟩ := a
  exact e b o h (fun z => n1 _ (Option.some.inj (h.symm.trans (by rw [z]; exact h1)))) (fun z => n1 _ (Option.some.inj (h.symm.trans (by rw [z]; exact h2))))
theorem Soft.putT {H : Hp} {d : Addr} {kvs kv : DT} (hd : H d = some (.dT kvs)) : Soft H (upd H d (.dT kv)) := fun b o h _ n2 => by
  rw [upd_ne (fun z => n2 kvs (Option.some.inj (h.symm.trans (by rw [z]; exact hd))))]
  exact h
/-- a key's texts -/
def kTx (k : List Key) : List Str := k.filterMap fun x => match x with
  | .inr z => some z
  | .inl _ => none
theorem keys_mem {H : Hp} {kvs : DT} {bs : List Addr} (h : IsKeys H kvs bs) (ks : ∀ e ∈ kvs, ∃ (c n : Str) (i : Int), e = (key c n, .int i)) : ∀ t ∈ bs, ∃ (c n : Str) (i : Int), (key c n, V.int i) ∈ kvs ∧ H t = some (.tup [.str c, .str n]) := by
  unfold IsKeys at h
  induction h with
  | nil => exact fun t ht => nomatch ht
  | cons e r ih =>
    rename_i p b l m
    intro t ht
    rcases List.mem_cons.mp ht with rfl | ht
    · obtain ⟨c, n, i, rfl⟩ := ks _ (.head _)
      exact ⟨c, n, i, .head _, e⟩
    · obtain ⟨c, n, i, h1, h2⟩ := ih (fun e he => ks e (.tail _ he)) t ht
      exact ⟨c, n, i, .tail _ h1, h2⟩
theorem keys_len {H : Hp} {kvs : DT} {bs : List Addr} (h : IsKeys H kvs bs) : bs.length = kvs.length := (Paired.length h).symm
theorem sort_keys {H : Hp} {a : Addr} {kvs : DT} {Q : VK} (ha : H a = some (.dT kvs)) (dk : DAt kvs) (q : ∀ (ts : List Addr) (p : Addr), (∀ t ∈ ts, ∃ (c n : Str) (i : Int), (key c n, V.int i) ∈ kvs ∧ H t = some (.tup [.str c, .str n])) → ts.length ≤ 60 → H p = none → Q (.ref p) (upd H p (.lst (ts.map V.ref)))) : rSortedDT [.ref a] H Q := by
  refine ⟨a, kvs, kTx, rfl, ha, fun e he => ?_, fun bs ts p hk pm np => q ts p (fun t ht => keys_mem hk dk.ks t (pm.mem_iff.mp ht)) ?_ np⟩
  · obtain ⟨c, n, i, rfl⟩ := dk.ks e he
    exact ⟨rfl, fun z => nomatch z⟩
  · rw [pm.length_eq, keys_len hk]
    exact dk.ln
theorem dget_t {H : Hp} {d t : Addr} {kvs : DT} {c n : Str} {v : V} (hd : H d = some (.dT kvs)) (ht : H t = some (.tup [.str c, .str n])) (hv : valV kvs (key c n) = some v) : DGet H d (.ref t) (some v) := by
  have g := DGet.t (H := H) (a := d) (b := t) (kvs := kvs) (k := key c n) hd ht
  rw [hv] at g
  exact g
theorem But2.gen {p g : Addr} {H H' : Hp} {a : Addr} {o : HO} (e : But2 p g H H') (hP : PoolAt H p g) (h : H a = some o) (n : ∀ xs, o ≠ .lst xs) : H' a = some o := by
  obtain ⟨_, ns, m, c, h1, h2, _⟩ := hP
  exact e a o h (fun z => n _ (Option.some.inj (h.symm.trans (by rw [z]; exact h1)))) (fun z => n _ (Option.some.inj (h.symm.trans (by rw [z]; exact h2))))
/-- what the law keeps: the past, its years, its shown things, what was kept of it -/
structure Fx (o dp tp sh d1 kp : Addr) (kv : DT) (z : Option (Str × Str × Str)) (H : Hp) : Prop where
  ho : H o = some (.tup [.ref dp, .ref tp, .ref sh])
  hdp : H dp = some (.dT kv)
  hd1 : H d1 = some (.dT kv)
  hz : ShAt H sh z
  hkp : H kp = some (.tup [.ref tp, .str (shD z).shown])
section
variable {o dp tp sh d1 kp : Addr} {kv : DT} {z : Option (Str × Str × Str)} {H H' : Hp}
theorem Fx.same (f : Fx o dp tp sh d1 kp kv z H) (s : Same H H') : Fx o dp tp sh d1 kp kv z H' := ⟨s _ _ f.ho, s _ _ f.hdp, s _ _ f.hd1, f.hz.keep s, s _ _ f.hkp⟩
theorem Fx.but2 {p g : Addr} (f : Fx o dp tp sh d1 kp kv z H) (hP : PoolAt H p g) (e : But2 p g H H') : Fx o dp tp sh d1 kp kv z H' := by
  refine ⟨e.gen hP f.ho (fun _ z => nomatch z), e.gen hP f.hdp (fun _ z => nomatch z), e.gen hP f.hd1 (fun _ z => nomatch z), ?_, e.gen hP f.hkp (fun _ z => nomatch z)⟩
  have hz := f.hz
  cases z with
  | none => exact e.gen hP hz (fun _ z => nomatch z)
  | some zz =>
    obtain ⟨x, y, v⟩ := zz
    obtain ⟨t1, t2, g1, g2, g3, r⟩ := hz
    exact ⟨t1, t2, e.gen hP g1 (fun _ z => nomatch z), e.gen hP g2 (fun _ z => nomatch z), e.gen hP g3 (fun _ z => nomatch z), r⟩
end
section
variable {P : Program} {w : World} {K : PySem.W.Frag} {mg : Str → Option Value} {base : Heap}
/-! ### law -/
abbrev s_law : Stmt := topS 14
abbrev N_law : List Str := ["script", "pool", "count", "at", "past", "kept", "other", "p"]
theorem sc_law : FnScope N_law ["script"] (defScope s_law) := ⟨rfl, rfl, rfl, by decide +kernel, rfl, by decide +kernel, by decide +kernel⟩
theorem law_body {k : Nat} {f : Addr} {cdv : Value} {A : Around} {outer : List Env} {s : Shared} {H : Hp} {E : XK} (T : Txt4 mg) (hg0 : A.guards = some []) (hr : Room (k + 4) (A.deeper (envOfC "law" (defScope s_law) s.heap.objs.size f cdv))) (c_pool : C8.Cal P w K mg base (k + 1) "_law_pool" (spPool K) []) (c_pick : C8.Cal P w K mg base (k + 1) "_law_pick" spPick []) (c_one : C8.Cal P w K mg base (k + 2) "_law_one" (spOne K) [])
    (c_names : C8.Cal P w K mg base (k + 3) "_law_names" (spNames K) []) (c_years : C8.Cal P w K mg base (k + 4) "_law_years" (spYears K) []) (c_past : C8.Cal P w K mg base (k + 4) "_law_past" spPast []) (c_good : C8.Cal P w K mg base (k + 3) "_law_good" spGood []) {a : Addr} {ns : List Int} {Q : VK} (ha : SqL K H a (ns.map V.int)) (ln : ns.length ≤ 63)
    (q : ∀ H', Q (.bl true) H') : ∃ t, PSs (cxOf L2.CX0 P w K mg base N_law "law" (defScope s_law) f cdv A outer s H E).nox (defBody s_law) t ∧ t { nx := fun _ H' => Q .non H', rt := Q } (start N_law [.ref a]) H := by
  have hu := hu_of hr
  have hgd : (A.deeper (envOfC "law" (defScope s_law) s.heap.objs.size f cdv)).guards = some [] := hg0
  refine ⟨_, (pss_cons (ps_set (i := 1) sc_law.nd rfl (.inl rfl) (C8.pe_c c_pool hr (by omega) (by rfl) (pa_cons (pv 0) (pa_cons pe_int pa_nil))))
(pss_cons (ps_set (i := 2) sc_law.nd rfl (.inl rfl) (C8.pe_c c_one hr (by omega) (by rfl) (pa_cons (pv 1) (pa_cons (pe_lst (pa_cons pe_int (pa_cons pe_int (pa_cons pe_int (pa_cons pe_int (pa_cons pe_int (pa_cons pe_int (pa_cons pe_int (pa_cons pe_int pa_nil))))))))) pa_nil))))
(C8.pss_cut (ps_if (pt_cmpR op_eq (C8.pe_c c_pick hr (by omega) (by rfl) (pa_cons (pv 1) (pa_cons pe_int pa_nil))) pe_int (nomark _))
    (pss_one (ps_set (i := 2) sc_law.nd rfl (.inl rfl) pe_int))
  pss_nil)
(pss_cons (ps_set (i := 3) sc_law.nd rfl (.inl rfl) (C8.pe_c c_years hr (by omega) (by rfl) (pa_cons (pv 1) (pa_cons (C8.pe_c c_names hr (by omega) (by rfl) (pa_cons (pv 1) (pa_cons (pv 2) (pa_cons (pe_lst pa_nil) pa_nil)))) pa_nil))))
(pss_cons (ps_set (i := 4) sc_law.nd rfl (.inl rfl) (C8.pe_c c_past hr (by omega) (by rfl) (pa_cons (pv 1) (pa_cons (pv 3) pa_nil))))
(pss_cons (ps_set (i := 5) sc_law.nd rfl (.inl rfl) (pe_tup (pa_cons (pe_ix (show IxR _ (rIxT K) from ix_tup) (pv 4) pe_int (fun _ _ => rfl)) (pa_cons (pe_callB (show CallR _ (.builtin "repr") rReprSh from cr_reprSh hgd hr.units) (by rfl) T.repr (by decide +kernel) (pa_cons (pe_ix (show IxR _ (rIxT K) from ix_tup) (pv 4) pe_int (fun _ _ => rfl)) pa_nil)) pa_nil))))
(pss_cons (ps_if (pt_not (pt_val (C8.pe_c c_good hr (by omega) (by rfl) (pa_cons (pv 4) (pa_cons (pv 3) pa_nil)))))
    (pss_one (ps_ret pe_bl))
  pss_nil)
(pss_cons (ps_set (i := 6) sc_law.nd rfl (.inl rfl) (C8.pe_c c_years hr (by omega) (by rfl) (pa_cons (pv 1) (pa_cons (C8.pe_c c_names hr (by omega) (by rfl) (pa_cons (pv 1) (pa_cons (C8.pe_c c_pick hr (by omega) (by rfl) (pa_cons (pv 1) (pa_cons pe_int pa_nil))) (pa_cons (pe_lst pa_nil) pa_nil)))) pa_nil))))
(pss_cons (ps_if (pt_not (pt_val (C8.pe_c c_good hr (by omega) (by rfl) (pa_cons (C8.pe_c c_past hr (by omega) (by rfl) (pa_cons (pv 1) (pa_cons (pv 6) pa_nil))) (pa_cons (pv 6) pa_nil)))))
    (pss_one (ps_ret pe_bl))
  pss_nil)
(pss_cons (ps_if (PW.pt (pw_or (pt_not (pt_val (C8.pe_c c_good hr (by omega) (by rfl) (pa_cons (pv 4) (pa_cons (pv 3) pa_nil))))) (pw_or1 (pt_cmpR (show OpR _ (compareOp .NotEq) rNeSame from op_neSame hu) (pe_tup (pa_cons (pe_ix (show IxR _ (rIxT K) from ix_tup) (pv 4) pe_int (fun _ _ => rfl)) (pa_cons (pe_callB (show CallR _ (.builtin "repr") rReprSh from cr_reprSh hgd hr.units) (by rfl) T.repr (by decide +kernel) (pa_cons (pe_ix (show IxR _ (rIxT K) from ix_tup) (pv 4) pe_int (fun _ _ => rfl)) pa_nil)) pa_nil))) (pv 5) (nomark _)))))
    (pss_one (ps_ret pe_bl))
  pss_nil)
(pss_cons (ps_for PassesOwn.never rfl (pi_list (pe_callB (show CallR _ (.builtin "sorted") rSortedDT from cr_sortedDT rfl) (by rfl) T.sorted (by decide +kernel) (pa_cons (pv 3) pa_nil))) (pg_name (i := 7) sc_law.nd rfl (.inl rfl))
    (pss_one (ps_if (PW.pt (pw_and (pt_cmpR op_eq (pe_ix (show IxR _ (rIxT K) from ix_tup) (pv 7) pe_int (fun _ _ => rfl)) pe_str (nomark _)) (pw_and1 (pt_cmpR op_eq (C8.pe_c c_pick hr (by omega) (by rfl) (pa_cons (pv 1) (pa_cons pe_int pa_nil))) pe_int (nomark _)))))
        (pss_cons (ps_dput hu (pv 3) (pv 7) (pe_callB (call_min2D rfl) (by rfl) T.min (by decide +kernel) (pa_cons pe_int (pa_cons (pe_op op_add (pe_dget hu (pv 3) (pv 7) (fun _ _ => rfl)) (C8.pe_c c_pick hr (by omega) (by rfl) (pa_cons (pv 1) (pa_cons pe_int pa_nil)))) pa_nil))) rfl)
        (pss_one (ps_dput hu (pe_ix (show IxR _ (rIxT K) from ix_tup) (pv 4) pe_int (fun _ _ => rfl)) (pv 7) (pe_dget hu (pv 3) (pv 7) (fun _ _ => rfl)) rfl)))
      pss_nil)))
(pss_one (ps_ret (C8.pe_c c_good hr (by omega) (by rfl) (pa_cons (pe_tup (pa_cons (pe_ix (show IxR _ (rIxT K) from ix_tup) (pv 4) pe_int (fun _ _ => rfl)) (pa_cons (pe_callTy (show CallR _ (.type "tuple") (rTupOf K) from call_tupD) (by rfl) T.tuple (by decide +kernel) (pa_cons (pe_lc (own := [("p", 7)]) rfl sc_law.nd (pi_list (pe_callB (show CallR _ (.builtin "sorted") rSortedDT from cr_sortedDT rfl) (by rfl) T.sorted (by decide +kernel) (pa_cons (pv 3) pa_nil))) (blkOk_by (own := [("p", 7)]) (N := N_law) (sc := defScope s_law) (by decide +kernel)) (fun _ _ _ _ _ => (pg_name (i := 7) sc_law.nd rfl (.inl rfl))) (fun _ _ _ _ _ => pts_one (pt_cmpR op_eq (pe_ix (show IxR _ (rIxT K) from ix_tup) (pv 7) pe_int (fun _ _ => rfl)) pe_str (nomark _))) (fun _ _ _ _ _ => (pe_tup (pa_cons (pe_ix (show IxR _ (rIxT K) from ix_tup) (pv 7) pe_int (fun _ _ => rfl)) pa_nil)))) pa_nil)) (pa_cons pe_dnewK pa_nil)))) (pa_cons (pv 3) pa_nil)))))))))))))))), ?_⟩
  walk_at "go"
  refine ⟨a, ns, 6421, rfl, ha, ln, by decide, by decide, fun H1 p g s1 np ng hP1 => ?_⟩
  walk_at "go"
  refine one_lit hP1 (by simp) (by simp) fun v H2 hv hP2 e2 => ?_
  obtain ⟨n0, rfl, n00, n01⟩ : ∃ m : Int, v = .int m ∧ 0 ≤ m ∧ m ≤ 9 := by
    simp only [List.mem_cons, List.not_mem_nil, or_false] at hv
    rcases hv with rfl | rfl | rfl | rfl | rfl | rfl | rfl | rfl <;> exact ⟨_, rfl, by decide, by decide⟩
  clear hv
  walk_at "go"
  refine ⟨fun σ H' => ∃ n : Int, σ = [some (.ref a), some (.ref p), some (.int n), none, none, none, none, none] ∧ 0 ≤ n ∧ n ≤ 16 ∧ PoolAt H' p g, ?_, fun σ H3 hM => ?_⟩
  · walk_at "go"
    refine ⟨p, g, 8, rfl, hP2, by decide, fun r H3 hP3 e3 r0 r1 => ?_⟩
    walk_at "go"
    refine r_ite (fun e => ?_) (fun e => ?_)
    · walk_at "go"
      exact ⟨16, rfl, by decide, by decide, hP3⟩
    · walk_at "go"
      exact ⟨n0, rfl, n00, by omega, hP3⟩
  · obtain ⟨n, rfl, n0', n1', hP3⟩ := hM
    have pn : ∀ {H : Hp} {c : Addr}, PoolAt H p g → H c = none → c ≠ p ∧ c ≠ g := fun {H c} hP nc => ⟨fun z => hP.np (by rw [← z]; exact nc), fun z => hP.ng (by rw [← z]; exact nc)⟩
    walk_at "go"
    refine ⟨Nat.zero_le _, fun c1 nc1 => ?_⟩
    obtain ⟨nc1p, nc1g⟩ := pn hP3 nc1
    have hP3' := hP3.keep (same_upd (o := .lst []) nc1)
    walk_at "go"
    refine ⟨p, g, c1, n, [], rfl, hP3', n0', by omega, SqL.of upd_same, nc1p, nc1g, fun cs ss H4 hP4 e4 ncs hcs lss kss => ?_⟩
    obtain ⟨ncsp, ncsg⟩ := pn hP3' ncs
    walk_at "go"
    refine ⟨p, g, cs, ss, rfl, hP4, hcs, kss, by omega, ncsp, ncsg, fun d1 kv H5 hP5 e5 nd1 hd1 dk1 => ?_⟩
    walk_at "go"
    refine ⟨p, g, d1, kv, rfl, hP5, hd1, dk1, fun o dp tp sh ats z H6 hP6 e6 ho ndp hdp htp ra nka hz => ?_⟩
    have nd : d1 ≠ dp := ne_of_none hd1 ndp
    walk_at "go"
    refine r_ixT (SqT.of ho) (atI_of (j := 1) rfl rfl) ?_
    walk_at "go"
    refine r_ixT (SqT.of ho) (atI_of (j := 2) rfl rfl) ?_
    walk_at "go"
    refine ⟨sh, z, rfl, hz, ?_⟩
    walk_at "go"
    refine ⟨sz_le (by simp), fun kp nkp => ?_⟩
    have s7 : Same H6 (upd H6 kp (.tup [.ref tp, .str (shD z).shown])) := same_upd nkp
    have f7 : Fx o dp tp sh d1 kp kv z (upd H6 kp (.tup [.ref tp, .str (shD z).shown])) := ⟨s7 _ _ ho, s7 _ _ hdp, s7 _ _ (e6.gen hP5 hd1 (fun _ z => nomatch z)), hz.keep s7, upd_same⟩
    have hP7 := hP6.keep s7
    generalize upd H6 kp (.tup [.ref tp, .str (shD z).shown]) = H7 at f7 hP7
    walk_at "go"
    refine ⟨o, dp, d1, _, _, kv, rfl, f7.ho, f7.hdp, f7.hd1, dk1, fun H8 s8 => ?_⟩
    have f8 := f7.same s8
    have hP8 := hP7.keep s8
    walk_at "go"
    refine r_ite (fun z => nomatch z) (fun _ => ?_)
    walk_at "go"
    refine ⟨p, g, 5, rfl, hP8, by decide, fun r9 H9 hP9 e9 r90 r91 => ?_⟩
    have f9 := f8.but2 hP8 e9
    walk_at "go"
    refine ⟨Nat.zero_le _, fun c2 nc2 => ?_⟩
    obtain ⟨nc2p, nc2g⟩ := pn hP9 nc2
    have hP9' := hP9.keep (same_upd (o := .lst []) nc2)
    have f9' := f9.same (same_upd (o := .lst []) nc2)
    walk_at "go"
    refine ⟨p, g, c2, r9, [], rfl, hP9', r90, by omega, SqL.of upd_same, nc2p, nc2g, fun ct st Ha hPa ea nct hct lst kst => ?_⟩
    obtain ⟨nctp, nctg⟩ := pn hP9' nct
    have fa := f9'.but2 hP9' ea
    walk_at "go"
    refine ⟨p, g, ct, st, rfl, hPa, hct, kst, by omega, nctp, nctg, fun d2 kv2 Hb hPb eb nd2 hd2 dk2 => ?_⟩
    have fb := fa.but2 hPa eb
    walk_at "go"
    refine ⟨p, g, d2, kv2, rfl, hPb, hd2, dk2, fun o2 dp2 tp2 sh2 ats2 z2 Hc hPc ec ho2 ndp2 hdp2 htp2 ra2 nka2 hz2 => ?_⟩
    have fc := fb.but2 hPb ec
    walk_at "go"
    refine ⟨o2, dp2, d2, _, _, kv2, rfl, ho2, hdp2, ec.gen hPb hd2 (fun _ z => nomatch z), dk2, fun Hd sd => ?_⟩
    have fd := fc.same sd
    have hPd := hPc.keep sd
    walk_at "go"
    refine r_ite (fun z => nomatch z) (fun _ => ?_)
    walk_at "go"
    refine ⟨o, dp, d1, _, _, kv, rfl, fd.ho, fd.hdp, fd.hd1, dk1, fun He se => ?_⟩
    have fe := fd.same se
    have hPe := hPd.keep se
    walk_at "go"
    refine r_ite (fun z => nomatch z) (fun _ => ?_)
    walk_at "go"
    refine r_ixT (SqT.of fe.ho) (atI_of (j := 1) rfl rfl) ?_
    walk_at "go"
    refine r_ixT (SqT.of fe.ho) (atI_of (j := 2) rfl rfl) ?_
    walk_at "go"
    refine ⟨sh, z, rfl, fe.hz, ?_⟩
    walk_at "go"
    refine ⟨sz_le (by simp), fun kq nkq => ?_⟩
    walk_at "go"
    have sq := same_upd (o := .tup [.ref tp, .str (shD z).shown]) nkq
    refine ⟨kq, kp, tp, _, rfl, rfl, upd_same, sq _ _ fe.hkp, ?_⟩
    have ff := fe.same sq
    have hPf := hPe.keep sq
    generalize upd He kq (.tup [.ref tp, .str (shD z).shown]) = Hf at ff hPf
    walk_at "go"
    refine r_ite (fun z => nomatch z) (fun _ => ?_)
    walk_at "go"
    refine sort_keys ff.hd1 dk1.d fun ts pl hts lts npl => ?_
    have sg := same_upd (o := .lst (ts.map V.ref)) npl
    have fg := ff.same sg
    have hPg := hPf.keep sg
    have hpl : upd Hf pl (.lst (ts.map V.ref)) pl = some (.lst (ts.map V.ref)) := upd_same
    obtain ⟨plp, plg⟩ := pn hPf npl
    have hts2 : ∀ t ∈ ts, ∃ (c n : Str) (i : Int), (key c n, V.int i) ∈ kv ∧ upd Hf pl (.lst (ts.map V.ref)) t = some (.tup [.str c, .str n]) := fun t ht => by
      obtain ⟨c, n, i, h1, h2⟩ := hts t ht
      exact ⟨c, n, i, h1, sg _ _ h2⟩
    generalize upd Hf pl (.lst (ts.map V.ref)) = Hg at fg hPg hpl hts2
    have pl1 : pl ≠ d1 := ne_of hpl fg.hd1 (fun z => nomatch z)
    have pl2 : pl ≠ dp := ne_of hpl fg.hdp (fun z => nomatch z)
    refine ⟨pl, rfl, ⟨_, SqL.of hpl⟩, ?_⟩
    refine for_list (K := K) (a := pl) (xs := ts.map V.ref) (fun i σ H' => ∃ (x7 : Option V) (kw : DT), σ = [some (.ref a), some (.ref p), some (.int n), some (.ref d1), some (.ref o), some (.ref kp), some (.ref d2), x7] ∧ PoolAt H' p g ∧ H' d1 = some (.dT kw) ∧ H' dp = some (.dT kw) ∧ D4 kw ∧
        (∀ c m : Str, (valV kv (key c m)).isSome = true → (valV kw (key c m)).isSome = true) ∧ Soft Hg H' ∧ H' pl = some (.lst (ts.map V.ref)))
      ⟨none, kv, rfl, hPg, fg.hd1, fg.hdp, dk1, fun _ _ h => h, Soft.refl, hpl⟩ (fun i σ Hh _ hW => ?_) (fun i zz σ Hh hz7 hW => ?_) (fun σ Hh hW => ?_)
    · obtain ⟨_, _, _, _, _, _, _, _, _, z⟩ := hW
      exact SqL.of z
    · obtain ⟨x7, kw, rfl, hPh, h1, h2, dkw, kin, sf, hplh⟩ := hW
      obtain ⟨t, ht0, rfl⟩ := get_map hz7
      obtain ⟨c, m, i0, hin, htt⟩ := hts2 t (List.mem_of_getElem? ht0)
      have hth := sf.tup htt
      obtain ⟨vv, hvv⟩ := Option.isSome_iff_exists.mp (kin c m (by rw [mem_valV dk1.d.nd hin]; rfl))
      obtain ⟨j, rfl⟩ := dkw.d.int hvv
      walk_at "go"
      refine r_ixT (SqT.of hth) (atI_of (j := 0) rfl rfl) ?_
      walk_at "go"
      refine r_ite (fun e1 => ?_) (fun e1 => ?_)
      · have ec : c = "e" := of_decide_eq_true e1
        subst ec
        walk_at "go"
        refine ⟨p, g, 2, rfl, hPh, by decide, fun r8 Hi hPi ei r80 r81 => ?_⟩
        have g1 := ei.dT hPh h1
        have g2 := ei.dT hPh h2
        have gt := ei.tup hPh hth
        have gpl := ei _ _ hplh plp plg
        have sfi := sf.trans (hPh.soft ei)
        walk_at "go"
        refine r_ite (fun e2 => ?_) (fun e2 => ?_)
        · walk_at "go"
          refine ⟨_, rfl, _, rfl, d1, .int j, rfl, dget_t g1 gt hvv, ?_⟩
          walk_at "go"
          refine ⟨p, g, 4, rfl, hPi, by decide, fun r9' Hj hPj ej u0 u1 => ?_⟩
          have k1 := ej.dT hPi g1
          have k2 := ej.dT hPi g2
          have kt := ej.tup hPi gt
          have kpl := ej _ _ gpl plp plg
          have sfj := sfi.trans (hPi.soft ej)
          have dk' : D4 (putK kw (key "e" m) (.int (if j + r9' < 4000 then j + r9' else 4000))) := dkw.putE hvv (fun b hb => by
            obtain ⟨_, j2, hj2, hle⟩ := dkw.d.be m b hb
            have h4 := dkw.b4 m b hb
            rw [hvv] at hj2
            cases hj2
            split <;> omega) (dkw.nk _ _ _ (valV_mem hvv))
          walk_at "go"
          refine ⟨d1, _, rfl, DPut.t (k := key "e" m) k1 kt (sz_lt (by have := dkw.d.ln; omega)), ?_⟩
          have sfk := sfj.trans (Soft.putT (kv := putK kw (key "e" m) (.int (if j + r9' < 4000 then j + r9' else 4000))) k1)
          have kt2 := (Soft.putT (kv := putK kw (key "e" m) (.int (if j + r9' < 4000 then j + r9' else 4000))) k1).tup kt
          have q1 : upd Hj d1 (.dT (putK kw (key "e" m) (.int (if j + r9' < 4000 then j + r9' else 4000)))) d1 = some (.dT (putK kw (key "e" m) (.int (if j + r9' < 4000 then j + r9' else 4000)))) := upd_same
          have q2 : upd Hj d1 (.dT (putK kw (key "e" m) (.int (if j + r9' < 4000 then j + r9' else 4000)))) dp = some (.dT kw) := by rw [upd_ne nd.symm]; exact k2
          have q3 : upd Hj d1 (.dT (putK kw (key "e" m) (.int (if j + r9' < 4000 then j + r9' else 4000)))) pl = some (.lst (ts.map V.ref)) := by rw [upd_ne pl1]; exact kpl
          have q4 : PoolAt (upd Hj d1 (.dT (putK kw (key "e" m) (.int (if j + r9' < 4000 then j + r9' else 4000))))) p g := by
            obtain ⟨nn, ns, mm, cc, z1, z2, rr⟩ := hPj
            exact ⟨nn, ns, mm, cc, by rw [upd_ne (ne_of z1 k1 (fun z => nomatch z))]; exact z1, by rw [upd_ne (ne_of z2 k1 (fun z => nomatch z))]; exact z2, rr⟩
          generalize upd Hj d1 (.dT (putK kw (key "e" m) (.int (if j + r9' < 4000 then j + r9' else 4000)))) = Hk at q1 q2 q3 q4 sfk kt2
          walk_at "go"
          refine ⟨_, rfl, _, rfl, d1, .int (if j + r9' < 4000 then j + r9' else 4000), rfl, dget_t q1 kt2 (by rw [valV_put, if_pos rfl]), ?_⟩
          walk_at "go"
          refine r_ixT (SqT.of (sfk.tup fg.ho)) (atI_of (j := 0) rfl rfl) ?_
          walk_at "go"
          refine ⟨dp, _, rfl, DPut.t (k := key "e" m) q2 kt2 (sz_lt (by have := dkw.d.ln; omega)), ?_⟩
          walk_at "go"
          refine ⟨_, putK kw (key "e" m) (.int (if j + r9' < 4000 then j + r9' else 4000)), rfl, ?_, by rw [upd_ne nd]; exact q1, upd_same, dk', fun c' m' h => ?_, sfk.trans (Soft.putT q2), by rw [upd_ne pl2]; exact q3⟩
          · obtain ⟨nn, ns, mm, cc, z1, z2, rr⟩ := q4
            exact ⟨nn, ns, mm, cc, by rw [upd_ne (ne_of z1 q2 (fun z => nomatch z))]; exact z1, by rw [upd_ne (ne_of z2 q2 (fun z => nomatch z))]; exact z2, rr⟩
          · rw [valV_put]
            split
            · rfl
            · exact kin c' m' h
        · walk_at "go"
          exact ⟨_, kw, rfl, hPi, g1, g2, dkw, kin, sfi, gpl⟩
      · walk_at "go"
        refine r_ite (fun z => nomatch z) (fun _ => ?_)
        walk_at "go"
        exact ⟨_, kw, rfl, hPh, h1, h2, dkw, kin, sf, hplh⟩
    · obtain ⟨x7, kw, rfl, hPh, h1, h2, dkw, kin, sf, hplh⟩ := hW
      walk_at "go"
      have hoh := sf.tup fg.ho
      refine r_ixT (SqT.of hoh) (atI_of (j := 0) rfl rfl) ?_
      walk_at "go"
      refine r_lc ?_
      walk_at "go"
      refine sort_keys h1 dkw.d fun us pk hus lus npk => ?_
      have si := same_upd (o := .lst (us.map V.ref)) npk
      have hpk : upd Hh pk (.lst (us.map V.ref)) pk = some (.lst (us.map V.ref)) := upd_same
      have hus2 : ∀ t ∈ us, ∃ (c n : Str) (i : Int), (key c n, V.int i) ∈ kw ∧ upd Hh pk (.lst (us.map V.ref)) t = some (.tup [.str c, .str n]) := fun t ht => by
        obtain ⟨c, n, i, h1, h2⟩ := hus t ht
        exact ⟨c, n, i, h1, si _ _ h2⟩
      have j1 := si _ _ h1
      have j2 := si _ _ h2
      generalize upd Hh pk (.lst (us.map V.ref)) = Hi at hpk hus2 j1 j2
      refine ⟨pk, rfl, ⟨_, SqL.of hpk⟩, fun Dz nz => ?_⟩
      refine lc_it (walk_list (K := K) (a := pk) (xs := us.map V.ref)) (fun i H' => Same Hi H' ∧ ∃ xs : List V, H' Dz = some (.lst xs) ∧ xs.length ≤ i) ⟨same_upd nz, [], upd_same, Nat.le_refl _⟩ (fun i H' _ h => SqL.of (h.1 _ _ hpk)) (fun j x Hj Hk hj hP' hy => ?_) (fun Hj hP' => ?_)
      · obtain ⟨rfl, hx⟩ := hy
        obtain ⟨t, ht0, rfl⟩ := get_map hx
        obtain ⟨c, m, i0, hin, htt⟩ := hus2 t (List.mem_of_getElem? ht0)
        obtain ⟨sj, xs, hxs, lxs⟩ := hP'
        have htj := sj _ _ htt
        rw [List.length_map] at hj
        walk_at "go"
        refine ⟨rfl, ?_⟩
        walk_at "go"
        refine r_ixT (SqT.of htj) (atI_of (j := 0) rfl rfl) ?_
        walk_at "go"
        refine r_ite (fun e => ?_) (fun e => ?_)
        · walk_at "go"
          refine r_ixT (SqT.of htj) (atI_of (j := 1) rfl rfl) ?_
          walk_at "go"
          refine ⟨sz_le (by simp), fun tn ntn => ?_⟩
          have sT := same_upd (o := .tup [.str m]) ntn
          exact ⟨xs, sT _ _ hxs, sz_lt (by omega), Same.mut (sj.trans sT) nz, _, upd_same, by rw [List.length_append, List.length_singleton]; omega⟩
        · exact ⟨sj, xs, hxs, by omega⟩
      · obtain ⟨sj, xs, hxs, lxs⟩ := hP'
        walk_at "go"
        refine ⟨Dz, xs, rfl, .inl ⟨SqL.of hxs, fun tz ntz => ?_⟩⟩
        walk_at "go"
        intro ez nez
        walk_at "go"
        refine ⟨sz_le (by simp), fun oz noz => ?_⟩
        have sz := ((sj.trans (same_upd (o := .tup xs) ntz)).trans (same_upd (o := .dK []) nez)).trans (same_upd (o := .tup [.ref dp, .ref tz, .ref ez]) noz)
        walk_at "go"
        exact ⟨oz, dp, d1, _, _, kw, rfl, upd_same, sz _ _ j2, sz _ _ j1, dkw, fun H' _ => q H'⟩
end
end
section
open PySem PySem.Spec PyProof.Rows L2
/-! ### the end: the law called by the caller, where nothing is being shown -/
theorem law_end {P : Program} {w : World} {K : PySem.W.Frag} {mg mb : Str → Option Value} {fa a : Addr} {s : Shared} {vs : List Value} {ns : List Int} (KX : K.In s.heap) (hns : s.heap.Ns mainGlobals mg) (hb : s.heap.Ns builtinsNs mb) (hbb : ∀ x : Str, x ≠ "__name__" → mb x = bootBuiltins x)
    (hlim : s.heap.NoLimit) (hg : s.gens = #[]) (ha : s.heap.get? a = some { cls := .type "list", data := .seq vs.toArray }) (hi : IntsAre vs ns) (hl : ns.length ≤ sizeLine)
    (F : ∀ (base : Heap) (H : Hp), K.In base → base.Ns mainGlobals mg → Env0 P w K mg base callerA [] s H → SqL K H a (ns.map V.int) → codeAny (model P w) callerA (.call (.ref fa) ⟨[.ref a], []⟩) (CR L2.CX0 [] P w H s (fun v _ => v = .bl true) (fun _ _ _ => False)) s) :
    codeAny (model P w) callerA (.call (.ref fa) ⟨[.ref a], []⟩) (fun r s' => r = .ok (.ret (.bool true)) ∧ OldK s.heap s'.heap ∧ s'.os = s.os ∧ AllBare s'.gens) s := by
  have rv := vals_ints hi
  have lv := hi.length
  have main : ∀ H : Hp, (∀ b u, H b = some u → b = a ∧ u = .frz { cls := .type "list", data := .seq vs.toArray } (.lst (ns.map V.int))) → (H a ≠ none → K.lookup a = none) → SqL K H a (ns.map V.int) →
      codeAny (model P w) callerA (.call (.ref fa) ⟨[.ref a], []⟩) (fun r s' => r = .ok (.ret (.bool true)) ∧ OldK s.heap s'.heap ∧ s'.os = s.os ∧ AllBare s'.gens) s := by
    intro H only hK hS
    have hok : HOk P w H s.heap := fun b u e => by
      obtain ⟨rfl, rfl⟩ := only b u e
      exact ⟨ha, by rw [List.length_map]; exact hl, vs, _, rv, ha⟩
    have nod : ∀ {b : Addr} {o : Obj} {es : Array DictEntry} {ep : Nat}, s.heap.get? b = some o → o.data = .dict es ep → H b = none := fun {b o es ep} e d => by
      cases q : H b with
      | none => rfl
      | some u =>
        obtain ⟨rfl, _⟩ := only b u q
        rw [ha] at e
        cases e
        cases d
    have nsB : ∀ {b : Addr} {m : Str → Option Value}, s.heap.Ns b m → (hidT s.heap H).Ns b m := fun {b m} ⟨o, es, ep, e, d, r⟩ => ⟨o, es, ep, hidT_get e (nod e d), d, r⟩
    have kb : K.In (hidT s.heap H) := fun b o e => hidT_get (KX b o e) (by
      cases q : H b with
      | none => rfl
      | some u =>
        obtain ⟨rfl, _⟩ := only b u q
        rw [hK (by rw [q]; simp)] at e
        cases e)
    have md : Mod K mg (hidT s.heap H) := ⟨kb, nsB hns, ⟨mb, nsB hb, hbb⟩, let ⟨mc, x, y⟩ := hlim; ⟨mc, nsB x, y⟩⟩
    have e0 : Env0 P w K mg (hidT s.heap H) callerA [] s H := ⟨rfl, md, fun b o e => of_hidT e, Nat.le_of_eq (hidT_size _ _), trivial, (fun b z => nomatch (show b ∈ ([] : List Addr) from z)), hok, .of_eq hg⟩
    refine codeAny_mono (F _ H kb (nsB hns) e0 hS) fun r s' h => ?_
    cases r with
    | error e => exact False.elim h
    | ok fl =>
      cases fl with
      | next => exact False.elim h
      | brk => exact False.elim h
      | cont => exact False.elim h
      | ret u =>
        obtain ⟨v, H', os, bare, un, ok', r', q⟩ := h
        obtain rfl : v = V.bl true := q
        obtain rfl : u = Value.bool true := r'
        refine ⟨rfl, OldK.of_keep fun b o e => ?_, os, bare⟩
        cases q : H b with
        | none => exact un.keep b o e q (fun z => nomatch (show b ∈ ([] : List Addr) from z)) (fun z => nomatch z)
        | some u =>
          obtain ⟨rfl, rfl⟩ := only b u q
          rw [ha] at e
          cases e
          exact (ok' _ _ (un.frzs _ _ _ q)).1
  cases hk : K.lookup a with
  | some o =>
    have e := KX a o hk
    rw [ha] at e
    cases e
    exact main (fun _ => none) (fun b u z => nomatch (show (none : Option HO) = some u from z)) (fun z => absurd rfl z) (.inr ⟨_, vs.toArray, _, hk, rfl, rfl, rfl, by rw [List.size_toArray, lv]; exact hl, by simpa using rv⟩)
  | none =>
    refine main (fun b => if b = a then some (.frz { cls := .type "list", data := .seq vs.toArray } (.lst (ns.map V.int))) else none) (fun b u z => ?_) (fun _ => hk) (.inl (.inr ⟨{ cls := .type "list", data := .seq vs.toArray }, if_pos rfl⟩))
    by_cases e : b = a
    · have z := (if_pos e).symm.trans z
      exact ⟨e, (Option.some.inj z).symm⟩
    · have z := (if_neg e).symm.trans z
      cases z
end
section
open PySem PySem.Spec PyProof.Rows L2
/-- a def that the top has written, as K tells it -/
structure DefK (K : PySem.W.Frag) (x : Str) (st : Stmt) (cd : Value) (f : Addr) (fd : FuncData) : Prop where
  ex : ∃ (oc : Value) (od : Option Addr) (kV dc pm : Value) (an : Option Addr) (ct : Value) (sl : Array (Option Value)), fd = PySem.W.fnOf x x (defArgs st) (defBody st) (defScope st) .none kV dc pm an cd ct ∧ K.lookup f = some ⟨oc, od, .func fd, sl⟩
  ns : PySem.W.nsIn K mainGlobals x = some (some (.ref f))
  code : PySem.W.codeIn K cd x = true
  kp : PySem.W.keepIn K (.ref f) = true
theorem defK_mk {K : PySem.W.Frag} {x : Str} {st : Stmt} {cd : Value} {f : Addr} {oc : Value} {od : Option Addr} {kV dc pm : Value} {an : Option Addr} {ct : Value} {sl : Array (Option Value)} (a : PySem.W.nsIn K mainGlobals x = some (some (.ref f)))
    (l : K.lookup f = some ⟨oc, od, .func (PySem.W.fnOf x x (defArgs st) (defBody st) (defScope st) .none kV dc pm an cd ct), sl⟩) (c : PySem.W.codeIn K cd x = true) (k : PySem.W.keepIn K (.ref f) = true) : ∃ fd, DefK K x st cd f fd := ⟨_, ⟨oc, od, kV, dc, pm, an, ct, sl, rfl, l⟩, a, c, k⟩
section
variable {K : PySem.W.Frag} {x : Str} {st : Stmt} {cd : Value} {f : Addr} {fd : FuncData} {h : Heap} {mg : Str → Option Value} {ps : List Str}
theorem DefK.fn (d : DefK K x st cd f fd) : L2.Fun K x x st f fd := by
  obtain ⟨oc, od, kV, dc, pm, an, ct, sl, rfl, l⟩ := d.ex
  exact fun_mk l d.code d.kp
/-- how the arguments bind -/
def BindsP (x : Str) (st : Stmt) (ps : List Str) : Prop := ∀ (kV doc pm : Value) (an : Option Addr) (cdv ct : Value) (us : List Value), us.length = ps.length → bindArgs (PySem.W.fnOf x x (defArgs st) (defBody st) (defScope st) .none kV doc pm an cdv ct) ⟨us, []⟩ = pure (ps.zip us)
theorem DefK.at_ (d : DefK K x st cd f fd) (X : K.In h) (G : h.Ns mainGlobals mg) (hb : BindsP x st ps) : DefAt K mg x st ps := ⟨f, fd, d.fn, PySem.W.mg_of X G d.ns, d.fn.binds hb⟩
theorem DefK.binds1 {z : Str} (d : DefK K x st cd f fd) (hb : BindsP x st [z]) : ∀ (s : Shared) (u : Value), BindsTo s fd ⟨[u], []⟩ [(z, u)] := by
  obtain ⟨oc, od, kV, dc, pm, an, ct, sl, rfl, l⟩ := d.ex
  exact fun s u => .of_eq (hb kV dc pm an cd ct [u] rfl)
end
theorem bp1 {x : Str} {st : Stmt} {a : Str} (h : ∀ (kV doc pm : Value) (an : Option Addr) (cdv ct u : Value), bindArgs (PySem.W.fnOf x x (defArgs st) (defBody st) (defScope st) .none kV doc pm an cdv ct) ⟨[u], []⟩ = pure [(a, u)]) : BindsP x st [a] := fun kV doc pm an cdv ct us hl => match us, hl with
  | [u], _ => h kV doc pm an cdv ct u
theorem bp2 {x : Str} {st : Stmt} {a b : Str} (h : ∀ (kV doc pm : Value) (an : Option Addr) (cdv ct u v : Value), bindArgs (PySem.W.fnOf x x (defArgs st) (defBody st) (defScope st) .none kV doc pm an cdv ct) ⟨[u, v], []⟩ = pure [(a, u), (b, v)]) : BindsP x st [a, b] := fun kV doc pm an cdv ct us hl => match us, hl with
  | [u, v], _ => h kV doc pm an cdv ct u v
theorem bp3 {x : Str} {st : Stmt} {a b c : Str} (h : ∀ (kV doc pm : Value) (an : Option Addr) (cdv ct u v y : Value), bindArgs (PySem.W.fnOf x x (defArgs st) (defBody st) (defScope st) .none kV doc pm an cdv ct) ⟨[u, v, y], []⟩ = pure [(a, u), (b, v), (c, y)]) : BindsP x st [a, b, c] := fun kV doc pm an cdv ct us hl => match us, hl with
  | [u, v, y], _ => h kV doc pm an cdv ct u v y
/-- the built-in names, as K tells them -/
structure TxtK (K : PySem.W.Frag) : Prop where
  len : PySem.W.nsIn K mainGlobals "len" = some none
  range : PySem.W.nsIn K mainGlobals "range" = some none
  min : PySem.W.nsIn K mainGlobals "min" = some none
  max : PySem.W.nsIn K mainGlobals "max" = some none
  abs : PySem.W.nsIn K mainGlobals "abs" = some none
  int : PySem.W.nsIn K mainGlobals "int" = some none
  bool : PySem.W.nsIn K mainGlobals "bool" = some none
  str : PySem.W.nsIn K mainGlobals "str" = some none
  tuple : PySem.W.nsIn K mainGlobals "tuple" = some none
  sorted : PySem.W.nsIn K mainGlobals "sorted" = some none
  isinstance : PySem.W.nsIn K mainGlobals "isinstance" = some none
  all : PySem.W.nsIn K mainGlobals "all" = some none
  any : PySem.W.nsIn K mainGlobals "any" = some none
  set : PySem.W.nsIn K mainGlobals "set" = some none
  repr : PySem.W.nsIn K mainGlobals "repr" = some none
theorem TxtK.to {K : PySem.W.Frag} {h : Heap} {mg : Str → Option Value} (t : TxtK K) (X : K.In h) (G : h.Ns mainGlobals mg) : Txt4 mg :=
  ⟨⟨PySem.W.mg_none_of X G t.len, PySem.W.mg_none_of X G t.range, PySem.W.mg_none_of X G t.min, PySem.W.mg_none_of X G t.max, PySem.W.mg_none_of X G t.abs, PySem.W.mg_none_of X G t.int, PySem.W.mg_none_of X G t.bool, PySem.W.mg_none_of X G t.str, PySem.W.mg_none_of X G t.tuple, PySem.W.mg_none_of X G t.sorted, PySem.W.mg_none_of X G t.isinstance⟩, PySem.W.mg_none_of X G t.all, PySem.W.mg_none_of X G t.any, PySem.W.mg_none_of X G t.set, PySem.W.mg_none_of X G t.repr⟩
/-- everything that K tells, and so the law's call -/
theorem all_mk {P : Program} {w : World} {K : PySem.W.Frag} {h : Heap} {mg : Str → Option Value} {fa : Addr} (X : K.In h) (G : h.Ns mainGlobals mg) (hfa : mg "law" = some (.ref fa))
    {f1 f2 f3 f4 f5 f6 f7 f8 f9 f10 f11 f12 f13 : Addr} {cd1 cd2 cd3 cd4 cd5 cd6 cd7 cd8 cd9 cd10 cd11 cd12 cd13 : Value}
    (a1 : ∃ fd, DefK K "units_in" s_units_in cd1 f1 fd) (a2 : ∃ fd, DefK K "is_part_of" s_is_part_of cd2 f2 fd) (a3 : ∃ fd, DefK K "phases" s_phases cd3 f3 fd) (a4 : ∃ fd, DefK K "_law_pool" s_pool cd4 f4 fd) (a5 : ∃ fd, DefK K "_law_pick" s_pick cd5 f5 fd) (a6 : ∃ fd, DefK K "_law_one" s_one cd6 f6 fd) (a7 : ∃ fd, DefK K "_law_names" s_names cd7 f7 fd) (a8 : ∃ fd, DefK K "_law_years" s_years cd8 f8 fd) (a9 : ∃ fd, DefK K "_law_past" s_past cd9 f9 fd) (a10 : ∃ fd, DefK K "_law_due" s_due cd10 f10 fd) (a11 : ∃ fd, DefK K "_law_side_by_side" s_side_by_side cd11 f11 fd) (a12 : ∃ fd, DefK K "_law_good" s_good cd12 f12 fd) (a13 : ∃ fd, DefK K "law" s_law cd13 f13 fd) (z : TxtK K) :
    ∀ (a : Addr) (ns : List Int) (s : Shared) (base : Heap) (H : Hp), ns.length ≤ 63 → K.In base → base.Ns mainGlobals mg → Env0 P w K mg base callerA [] s H → SqL K H a (ns.map V.int) → codeAny (model P w) callerA (.call (.ref fa) ⟨[.ref a], []⟩) (CR L2.CX0 [] P w H s (fun v _ => v = .bl true) (fun _ _ _ => False)) s := by
  obtain ⟨_, d1⟩ := a1
  obtain ⟨_, d2⟩ := a2
  obtain ⟨_, d3⟩ := a3
  obtain ⟨_, d4⟩ := a4
  obtain ⟨_, d5⟩ := a5
  obtain ⟨_, d6⟩ := a6
  obtain ⟨_, d7⟩ := a7
  obtain ⟨_, d8⟩ := a8
  obtain ⟨_, d9⟩ := a9
  obtain ⟨_, d10⟩ := a10
  obtain ⟨_, d11⟩ := a11
  obtain ⟨_, d12⟩ := a12
  obtain ⟨fd, d13⟩ := a13
  have e := hfa.symm.trans (PySem.W.mg_of X G d13.ns)
  cases e
  have T := z.to X G
  intro a ns s base H ln KB GB e0 hS
  have D1 := d1.at_ X G (ps := ["past"]) (bp1 fun _ _ _ _ _ _ _ => rfl)
  have D2 := d2.at_ X G (ps := ["few", "many"]) (bp2 fun _ _ _ _ _ _ _ _ => rfl)
  have D3 := d3.at_ X G (ps := ["past"]) (bp1 fun _ _ _ _ _ _ _ => rfl)
  have D4 := d4.at_ X G (ps := ["script", "salt"]) (bp2 fun _ _ _ _ _ _ _ _ => rfl)
  have D5 := d5.at_ X G (ps := ["pool", "many"]) (bp2 fun _ _ _ _ _ _ _ _ => rfl)
  have D6 := d6.at_ X G (ps := ["pool", "row"]) (bp2 fun _ _ _ _ _ _ _ _ => rfl)
  have D7 := d7.at_ X G (ps := ["pool", "many", "taken"]) (bp3 fun _ _ _ _ _ _ _ _ _ => rfl)
  have D8 := d8.at_ X G (ps := ["pool", "units"]) (bp2 fun _ _ _ _ _ _ _ _ => rfl)
  have D9 := d9.at_ X G (ps := ["pool", "at"]) (bp2 fun _ _ _ _ _ _ _ _ => rfl)
  have D10 := d10.at_ X G (ps := ["at"]) (bp1 fun _ _ _ _ _ _ _ => rfl)
  have D11 := d11.at_ X G (ps := ["told", "at"]) (bp2 fun _ _ _ _ _ _ _ _ => rfl)
  have D12 := d12.at_ X G (ps := ["past", "at"]) (bp2 fun _ _ _ _ _ _ _ _ => rfl)
  have ui := ok_units_in (P := P) (w := w) (base := base) (k := 0) D1 T.toTxt
  have part := ok_part (P := P) (w := w) (base := base) (k := 0) D2 T
  have ph := ok_phases (k := 0) D3 T ui part
  have pool := ok_pool (P := P) (w := w) (base := base) (k := 0) D4 T.toTxt
  have pick := ok_pick (P := P) (w := w) (base := base) (k := 0) D5 T.toTxt
  have one := ok_one (k := 1) D6 T.toTxt pick
  have names := ok_names (k := 0) D7 T.toTxt pick one
  have years := ok_years (k := 0) D8 T pick one names
  have past := ok_past (k := 0) D9 T pick one names
  have due := ok_due (P := P) (w := w) (base := base) (k := 0) D10 T
  have side := ok_side (P := P) (w := w) (base := base) (k := 0) D11 T
  have good := ok_good (k := 0) D12 T ph due side
  have b := d13.binds1 (z := "script") (bp1 fun _ _ _ _ _ _ _ => rfl)
  obtain ⟨oc, od, kV, dc, pm, an, ct, sl, rfl, l⟩ := d13.ex
  refine LamX.run_ofS (k := 4) (ps := ["script"]) (us := [.ref a]) (vs := [.ref a]) l d13.code sc_law ⟨rfl, by decide, by decide⟩ e0 (b s (.ref a)) (.cons rfl .nil) rfl fun hr => ?_
  obtain ⟨t, ht, hq⟩ := law_body (k := 0) (outer := []) (E := fun _ _ _ => False) (Q := fun v _ => v = .bl true) T rfl hr pool pick one names years past good hS ln (fun _ => rfl)
  exact ⟨t, ht.nox, hq⟩
/-- the walk that k_fill leaves -/
theorem walk64 {l : PySem.W.OpenLaw} {q : Program} {loose : List Str} {XP : (Str → Option Value) → Heap → Prop} {YP : World → Heap → Prop} {d : DefRec} {K : Params → PySem.W.Frag} (hn : l.most = some 63) (hdf : d.params.defaults = [])
    (hY : ∀ (w : World) (h : Heap), YP w h → (K w.params).In h)
    (F : ∀ (w : World) (mg : Str → Option Value) (fa : Addr) (h : Heap), (K w.params).In h → h.Ns mainGlobals mg → mg d.name = some (.ref fa) →
      ∀ (a : Addr) (ns : List Int) (s : Shared) (base : Heap) (H : Hp), ns.length ≤ 63 → (K w.params).In base → base.Ns mainGlobals mg → Env0 l.prog w (K w.params) mg base callerA [] s H → SqL (K w.params) H a (ns.map V.int) →
        codeAny (model l.prog w) callerA (.call (.ref fa) ⟨[.ref a], []⟩) (CR L2.CX0 [] l.prog w H s (fun v _ => v = .bl true) (fun _ _ _ => False)) s) :
    PySem.W.WalkO q loose XP YP l.row.toRowW d [] (fun f vs => PySem.call f vs) := by
  refine Att.attach_call hn hdf fun w s₀ s₁ mg mb fa o pm cd doc a vs ns G Y ho hd hcd hmg hobj hints hlen hg => ?_
  have KX := hY w _ Y
  exact law_end KX G.T.g G.T.b G.T.builtins G.T.nolimit hg hobj hints (Nat.le_trans hlen (by decide)) fun base H KB GB e0 hS => F w mg fa _ KX G.T.g hmg a ns s₁ base H hlen KB GB e0 hS
end
end Dg
open PySem PySem.W PyProof.Rows
local macro_rules | `(tactic| walk_at "dk") => `(tactic| (refine' Dg.defK_mk ?a ?l ?c ?k; (case a => k_is); (case l => k_is); (case c => k_is); (case k => k_is)))
set_option maxHeartbeats 0 in
theorem PySem.Challenge.cw_digstead_k64_phases_of_a_past_holds : PySem.Challenge.rw_digstead_k64_phases_of_a_past.Holds := by
  w_on; o_law; k_head; (case hw => w_witness2)
  k_fill
  refine Dg.walk64 (l := PySem.Challenge.rw_digstead_k64_phases_of_a_past) rfl rfl (fun w h Y => PySem.W.kIn_of Y) ?F
  case F =>
    intro w mg fa h KX G hmg
    refine' Dg.all_mk KX G hmg ?a1 ?a2 ?a3 ?a4 ?a5 ?a6 ?a7 ?a8 ?a9 ?a10 ?a11 ?a12 ?a13 ?z
    (case a1 => walk_at "dk"); (case a2 => walk_at "dk"); (case a3 => walk_at "dk"); (case a4 => walk_at "dk"); (case a5 => walk_at "dk"); (case a6 => walk_at "dk"); (case a7 => walk_at "dk"); (case a8 => walk_at "dk"); (case a9 => walk_at "dk"); (case a10 => walk_at "dk"); (case a11 => walk_at "dk"); (case a12 => walk_at "dk"); (case a13 => walk_at "dk")
    (case z => exact ⟨by k_is, by k_is, by k_is, by k_is, by k_is, by k_is, by k_is, by k_is, by k_is, by k_is, by k_is, by k_is, by k_is, by k_is, by k_is⟩)
