import PyProof.Rows.All
import Wide.All
import OpenK.AllK
import Wide.FinOn
import HandS.ForMost
import HandS.Codes
import HandS.Walk
import HandS.IsInst
import HandS.TupAny
import HandS.SortInts
import HandS.DictComp
import HandS.DictTup
import KE.KSortKeySt
import HandS.Lambda
import HandS.Nested
import HandS.SortKw
import HandS.Keys
import HandS.Iter
import PySem.Challenge.RW_digstead_k65_visits_of_a_past
import HandS.EndTab
import KE.KNestM
set_option Elab.async false
set_option linter.all false
set_option maxRecDepth 100000
set_option maxHeartbeats 4000000
namespace Dg
open PySem PySem.Spec PyProof.Rows L2
/-- a def of the module that may be called by its name, by its body -/
theorem cal_of {P : Program} {w : World} {K : PySem.W.Frag} {mg : Str → Option Value} {base : Heap} {x : Str} {st : Stmt} {f : Addr} {fd : FuncData} {N ps : List Str} {k : Nat} {sp : Sp} (F : L2.Fun K x x st f fd) (hg : mg x = some (.ref f)) (b : Binds K fd ps []) (S : FnScope N ps (defScope st)) (len : ∀ vs H Q E, sp vs H Q E → vs.length = ps.length)
    (hbody : ∀ (cdv : Value) (A : Around) (outer : List Env) (s : Shared) (H : Hp) (vs : List V) (Q : VK) (E : XK), Room k (A.deeper (envOfC x (defScope st) s.heap.objs.size f cdv)) → sp vs H Q E →
      ∃ t, PSs (cxOf L2.CX0 P w K mg base N x (defScope st) f cdv A outer s H E).nox (defBody st) t ∧ t { nx := fun _ H' => Q .non H', rt := Q } (start N vs) H) : C8.Cal P w K mg base (k + 1) x sp [] :=
  ⟨f, fd, ps, [], L2.Fun.ok F S len hbody, hg, F.kp, b, .nil⟩
/-- where a def stands -/
structure DefAt (K : PySem.W.Frag) (mg : Str → Option Value) (x : Str) (st : Stmt) (ps : List Str) : Prop where
  ex : ∃ (f : Addr) (fd : FuncData), L2.Fun K x x st f fd ∧ mg x = some (.ref f) ∧ Binds K fd ps []
/-- the built-in names that are still the built-in ones -/
structure Txt (mg : Str → Option Value) : Prop where
  len : mg "len" = none
  range : mg "range" = none
  min : mg "min" = none
  max : mg "max" = none
  abs : mg "abs" = none
  int : mg "int" = none
  bool : mg "bool" = none
  str : mg "str" = none
  tuple : mg "tuple" = none
  sorted : mg "sorted" = none
  isinstance : mg "isinstance" = none

/-! ### rules by names -/
def rInt : List V → Hp → VK → Prop := fun xs H Q => ∃ i, xs = [.int i] ∧ Q (.int i) H
def rAbs : List V → Hp → VK → Prop := fun xs H Q => ∃ i, xs = [.int i] ∧ Q (.int (if i < 0 then -i else i)) H
def rMin2 : List V → Hp → VK → Prop := fun xs H Q => ∃ i j, xs = [.int i, .int j] ∧ Q (.int (if j < i then j else i)) H
def rMax2 : List V → Hp → VK → Prop := fun xs H Q => ∃ i j, xs = [.int i, .int j] ∧ Q (.int (if j > i then j else i)) H
def rStrI : List V → Hp → VK → Prop := fun xs H Q => ∃ i, xs = [.int i] ∧ i.natAbs.log2 < 1920 ∧ Q (.str (toString i)) H
def rLenQ (K : PySem.W.Frag) : List V → Hp → VK → Prop := fun xs H Q => ∃ p ys, xs = [.ref p] ∧ (SqL K H p ys ∨ SqT K H p ys) ∧ Q (.int ys.length) H
def rTupOf (K : PySem.W.Frag) : List V → Hp → VK → Prop := fun xs H Q => ∃ p ys, xs = [.ref p] ∧ ((SqL K H p ys ∧ ∀ l, H l = none → Q (.ref l) (upd H l (.tup ys))) ∨ (SqT K H p ys ∧ Q (.ref p) H))
def rAddStr : R2 := fun x y H Q => ∃ i j, x = .str i ∧ y = .str j ∧ i.length + j.length ≤ sizeLine ∧ Q (.str (i ++ j)) H
def rGeStr : R2 := fun x y H Q => ∃ i j, x = .str i ∧ y = .str j ∧ Q (.bl (!decide (i.cps.toList < j.cps.toList))) H
section
variable {X : Cx}
theorem call_intD : CallR X (.type "int") rInt := fun pins s σ H xs us Q I r h => call_int1 pins s σ H xs us Q I r (.inl h)
theorem call_absD : CallR X (.builtin "abs") rAbs := call_abs
theorem call_min2D (hc : X.calm = true) : CallR X (.builtin "min") rMin2 := call_min2 hc
theorem call_max2D (hc : X.calm = true) : CallR X (.builtin "max") rMax2 := call_max2 hc
theorem call_strD : CallR X (.type "str") rStrI := call_str_int
theorem call_lenD' : CallR X (.builtin "len") (rLenQ X.K) := call_len_seq
theorem call_tupD : CallR X (.type "tuple") (rTupOf X.K) := call_tuple_of
theorem op_addS : OpR X (binaryOp .Add) rAddStr := op_add_str
theorem op_geS : OpR X (compareOp .GtE) rGeStr := op_ge_str
end
/-! ### the reading, step by step -/
section
variable {K : PySem.W.Frag} {t u : TS} {te ta tb tc td ti to : TE} {tt tu : TT} {tr : TA} {g : TG} {D : Ends} {σ : L2.St} {H : Hp} {Q : VK} {QB : Bool → Hp → Prop} {QA : List V → Hp → Prop} {QS : L2.St → Hp → Prop} {x y v : V} {i j n : Nat} {r r' : R2} {rc : List V → Hp → VK → Prop}
theorem r_seq (h : t { D with nx := u D } σ H) : tSeq t u D σ H := h
theorem r_next (h : D.nx σ H) : tNext D σ H := h
theorem r_nx {f b c : L2.St → Hp → Prop} {r : V → Hp → Prop} (h : f σ H) : Ends.nx ⟨f, r, b, c⟩ σ H := h
theorem r_rt {f b c : L2.St → Hp → Prop} {r : V → Hp → Prop} (h : r v H) : Ends.rt ⟨f, r, b, c⟩ v H := h
theorem r_bk {f b c : L2.St → Hp → Prop} {r : V → Hp → Prop} (h : b σ H) : Ends.bk ⟨f, r, b, c⟩ σ H := h
theorem r_ct {f b c : L2.St → Hp → Prop} {r : V → Hp → Prop} (h : c σ H) : Ends.ct ⟨f, r, b, c⟩ σ H := h
theorem r_brk (h : D.bk σ H) : tBreak D σ H := h
theorem r_asg (h : te σ H fun x H1 => g x σ H1 D.nx) : tAsg te g D σ H := h
theorem r_ret (h : te σ H D.rt) : tRet te D σ H := h
theorem r_drop (h : te σ H fun _ H1 => D.nx σ H1) : tDrop te D σ H := h
theorem r_ifS (h : tt σ H fun b H1 => if b = true then t D σ H1 else u D σ H1) : tIfS tt t u D σ H := h
theorem r_name (h : QS (σ.set i (some v)) H) : gName i v σ H QS := h
theorem r_gsub {ts : TSet} (h : to σ H fun o H1 => ti σ H1 fun i H2 => ts o i v H2 fun H3 => QS σ H3) : gSub to ti ts v σ H QS := h
theorem r_op (h : ta σ H fun x H1 => tb σ H1 fun y H2 => r x y H2 Q) : tOp r ta tb σ H Q := h
theorem r_un {r : V → Hp → VK → Prop} (h : ta σ H fun x H1 => r x H1 Q) : tUn r ta σ H Q := h
theorem r_cb (h : tr σ H fun vs H1 => rc vs H1 Q) : tCB rc tr σ H Q := h
theorem r_nil (h : QA [] H) : tNil σ H QA := h
theorem r_cons (h : ta σ H fun x H1 => tr σ H1 fun xs H2 => QA (x :: xs) H2) : tCons ta tr σ H QA := h
theorem r_var (h : σ[i]? = some (some v)) (q : Q v H) : tVar i σ H Q := ⟨v, h, q⟩
theorem r_c (h : Q v H) : tC v σ H Q := h
theorem r_test (h : te σ H fun x H' => ∃ k, x = .bl k ∧ QB k H') : tTest te σ H QB := h
theorem r_tB (h : te σ H fun x H' => ∃ k, x = .bl k ∧ QB k H') : tB te σ H QB := h
theorem r_bl {b : Bool} {A : Bool → Prop} (h : A b) : ∃ k, V.bl b = V.bl k ∧ A k := ⟨b, rfl, h⟩
theorem r_and (h : tt σ H fun c H1 => if c = true then tu σ H1 QB else QB false H1) : tAnd tt tu σ H QB := h
theorem r_or (h : tt σ H fun c H1 => if c = true then QB true H1 else tu σ H1 QB) : tOr tt tu σ H QB := h
theorem r_not (h : tt σ H fun c H1 => QB (!c) H1) : tNot tt σ H QB := h
theorem r_andV (h : ta σ H fun x H1 => ∃ c, x = .bl c ∧ if c = true then tb σ H1 Q else Q (.bl false) H1) : tAndV ta tb σ H Q := h
theorem r_I0 {f : Int → Int → V} {a b : Int} (h : Q (f a b) H) : rI0 f (.int a) (.int b) H Q := ⟨a, b, rfl, rfl, h⟩
theorem r_I {C : Int → Int → Prop} {f : Int → Int → V} {a b : Int} (hc : C a b) (h : Q (f a b) H) : rI C f (.int a) (.int b) H Q := ⟨a, b, rfl, rfl, hc, h⟩
theorem r_mod {a b : Int} (hc : 0 < b) (h : Q (.int (a % b)) H) : rI (fun _ j => 0 < j) (fun i j => .int (i % j)) (.int a) (.int b) H Q := ⟨a, b, rfl, rfl, hc, h⟩
theorem r_fdiv {a b : Int} (hc : 0 < b ∧ b < 1073741824) (h : Q (.int (a / b)) H) : rI CDiv (fun i j => .int (i / j)) (.int a) (.int b) H Q := ⟨a, b, rfl, rfl, hc, h⟩
theorem r_mul {a b : Int} (hc : (-18446744073709551616 < a ∧ a < 18446744073709551616) ∨ (-18446744073709551616 < b ∧ b < 18446744073709551616)) (h : Q (.int (a * b)) H) : rI CMul (fun i j => .int (i * j)) (.int a) (.int b) H Q := ⟨a, b, rfl, rfl, hc, h⟩
theorem r_U {f : Int → V} {a : Int} (h : Q (f a) H) : rU f (.int a) H Q := ⟨a, rfl, h⟩
theorem r_eqI {a b : Int} (h : Q (.bl (decide (a = b))) H) : rEq (.int a) (.int b) H Q := ⟨rfl, by
  have e : decide (V.int a = V.int b) = decide (a = b) := by rw [dec_int]; exact (Bool.beq_eq_decide_eq a b)
  rw [e]
  exact h⟩
theorem r_neI {a b : Int} (h : Q (.bl (!decide (a = b))) H) : rNe (.int a) (.int b) H Q := ⟨rfl, by
  have e : decide (V.int a = V.int b) = decide (a = b) := by rw [dec_int]; exact (Bool.beq_eq_decide_eq a b)
  rw [e]
  exact h⟩
theorem r_eqS {a b : Str} (h : Q (.bl (decide (a = b))) H) : rEq (.str a) (.str b) H Q := ⟨rfl, by
  have e : decide (V.str a = V.str b) = decide (a = b) := by
    rw [Bool.eq_iff_iff]
    simp
  rw [e]
  exact h⟩
theorem r_int {a : Int} (h : Q (.int a) H) : rInt [.int a] H Q := ⟨a, rfl, h⟩
theorem r_abs {a : Int} (h : Q (.int (if a < 0 then -a else a)) H) : rAbs [.int a] H Q := ⟨a, rfl, h⟩
theorem r_min2 {a b : Int} (h : Q (.int (if b < a then b else a)) H) : rMin2 [.int a, .int b] H Q := ⟨a, b, rfl, h⟩
theorem r_max2 {a b : Int} (h : Q (.int (if b > a then b else a)) H) : rMax2 [.int a, .int b] H Q := ⟨a, b, rfl, h⟩
theorem r_strI {a : Int} (hb : a.natAbs.log2 < 1920) (h : Q (.str (toString a)) H) : rStrI [.int a] H Q := ⟨a, rfl, hb, h⟩
theorem r_lenL {p : Addr} {xs : List V} (hs : SqL K H p xs) (h : Q (.int xs.length) H) : rLenQ K [.ref p] H Q := ⟨p, xs, rfl, .inl hs, h⟩
theorem r_lenT {p : Addr} {xs : List V} (hs : SqT K H p xs) (h : Q (.int xs.length) H) : rLenQ K [.ref p] H Q := ⟨p, xs, rfl, .inr hs, h⟩
theorem r_lst (hl : ∀ xs : List V, xs.length ≤ 100 → True) (h : tr σ H fun xs H1 => xs.length ≤ sizeLine ∧ ∀ p, H1 p = none → Q (.ref p) (upd H1 p (.lst xs))) : tLst tr σ H Q := h
theorem r_lst' (h : tr σ H fun xs H1 => xs.length ≤ sizeLine ∧ ∀ p, H1 p = none → Q (.ref p) (upd H1 p (.lst xs))) : tLst tr σ H Q := h
theorem r_tup (h : tr σ H fun xs H1 => xs.length ≤ sizeLine ∧ ∀ p, H1 p = none → Q (.ref p) (upd H1 p (.tup xs))) : tTup tr σ H Q := h
theorem r_ixL {p : Addr} {xs : List V} {k : Int} (hs : SqL K H p xs) (ha : atI xs k = some v) (h : Q v H) : rIxL K (.ref p) (.int k) H Q := ⟨p, xs, k, v, rfl, rfl, hs, ha, h⟩
theorem r_ixT {p : Addr} {xs : List V} {k : Int} (hs : SqT K H p xs) (ha : atI xs k = some v) (h : Q v H) : rIxT K (.ref p) (.int k) H Q := ⟨p, xs, k, v, rfl, rfl, hs, ha, h⟩
theorem r_setL {p : Addr} {xs : List V} {k : Int} {j : Nat} {QH : Hp → Prop} (hp : H p = some (.lst xs)) (hk : ixN xs.length k = some j) (h : QH (upd H p (.lst (xs.set j v)))) : rSetL (.ref p) (.int k) v H QH := ⟨p, xs, k, j, rfl, rfl, hp, hk, h⟩
theorem r_call {sp : Sp} {E : XK} (h : tr σ H fun vs H1 => sp (vs ++ []) H1 Q E) : tCall sp [] E tr σ H Q := h
theorem r_dget (h : td σ H fun x H1 => te σ H1 fun y H2 => ∃ a v, x = .ref a ∧ DGet H2 a y (some v) ∧ Q v H2) : tDGet td te σ H Q := h
theorem r_dput (h : te σ H fun v H1 => td σ H1 fun x H2 => ta σ H2 fun y H3 => ∃ a H4, x = .ref a ∧ DPut H3 a y v H4 ∧ D.nx σ H4) : sDPut td ta te D σ H := h
theorem r_rng1 {R : It → Hp → Prop} (h : tr σ H fun vs H1 => ∃ j : Int, vs = [.int j] ∧ -(2 ^ 62) ≤ j ∧ j < 2 ^ 62 ∧ R (Itr 0 j.toNat) H1) : iRng1 tr σ H R := h
theorem r_rng2 {R : It → Hp → Prop} (h : tr σ H fun vs H1 => ∃ i j : Int, vs = [.int i, .int j] ∧ (-(2 ^ 62) ≤ i ∧ i < 2 ^ 62 ∧ -(2 ^ 62) ≤ j ∧ j < 2 ^ 62) ∧ R (Itr i (j - i).toNat) H1) : iRng2 tr σ H R := h
/-- what a for asks once its walked thing is known -/
def ForW (J : It) (g : TG) (tb : TS) (D : Ends) (σ : L2.St) (H1 : Hp) : Prop := ∃ W : Nat → Nat → L2.St → Hp → Prop, (∃ m, W 0 m σ H1) ∧ ∀ i m σ H, W i m σ H →
    (J.stop i H ∧ D.nx σ H) ∨ (J.go i H ∧ ∃ N : L2.St → Hp → Prop, (∀ σ' H', N σ' H' → ∃ m', m' < m ∧ W (i + 1) m' σ' H') ∧ ∀ x H', J.yld i H x H' → g x σ H' fun σ2 H2 => tb { D with nx := N, ct := N, bk := D.nx } σ2 H2)
theorem r_for {wi : TI} {tb : TS} (h : wi σ H fun J H1 => ForW J g tb D σ H1) : tFor wi g tb D σ H := h
theorem r_list {R : It → Hp → Prop} (h : te σ H fun x H1 => ∃ a, x = .ref a ∧ (∃ xs, SqL K H1 a xs) ∧ R (Itl K a) H1) : iList K te σ H R := h
theorem r_itup {R : It → Hp → Prop} (h : te σ H fun x H1 => ∃ a, x = .ref a ∧ (∃ xs, SqT K H1 a xs) ∧ R (Itt K a) H1) : iTup K te σ H R := h
theorem r_cat {p q : Addr} {xs ys : List V} (hp : H p = some (.lst xs)) (hq : H q = some (.lst ys)) (hl : xs.length + ys.length ≤ sizeLine) (h : ∀ o, H o = none → Q (.ref o) (upd H o (.lst (xs ++ ys)))) : rCat (.ref p) (.ref q) H Q := ⟨p, q, xs, ys, rfl, rfl, hp, hq, hl, h⟩
theorem r_bm0 {T : String} {r : V → List V → Hp → VK → Prop} (h : ta σ H fun x H1 => tyV K T x H1 ∧ r x [] H1 Q) : tBM0 K T r ta σ H Q := h
theorem r_bm {T : String} {r : V → List V → Hp → VK → Prop} (h : ta σ H fun x H1 => tyV K T x H1 ∧ tr σ H1 fun xs H2 => r x xs H2 Q) : tBM K T r ta tr σ H Q := h
theorem tyL {p : Addr} {xs : List V} (h : H p = some (.lst xs)) : tyV K "list" (.ref p) H := .inl ⟨rfl, _, SqL.of h⟩
theorem r_pop {p : Addr} {xs : List V} (h : H p = some (.lst (xs ++ [v]))) (q : Q v (upd H p (.lst xs))) : tyV K "list" (.ref p) H ∧ rPop (.ref p) [] H Q :=
  ⟨tyL h, p, _, v, rfl, rfl, h, by simp, by rw [List.dropLast_concat]; exact q⟩
theorem r_append {p : Addr} {xs : List V} (h : H p = some (.lst xs)) (hl : xs.length ≤ 90000) (q : Q .non (upd H p (.lst (xs ++ [v])))) : rAppend (.ref p) [v] H Q :=
  ⟨p, xs, v, rfl, rfl, h, Nat.lt_of_le_of_lt hl (by decide), q⟩
theorem r_setLast {p : Addr} {xs : List V} {y : V} {QH : Hp → Prop} (hp : H p = some (.lst (xs ++ [y]))) (h : QH (upd H p (.lst (xs ++ [v])))) : rSetL (.ref p) (.int (-1)) v H QH :=
  ⟨p, _, -1, xs.length, rfl, rfl, hp, by
    unfold ixN
    rw [if_neg (by omega), if_pos (by rw [List.length_append, List.length_singleton]; omega)]
    congr 1
    rw [List.length_append, List.length_singleton]
    omega, by
    have e : (xs ++ [y]).set xs.length v = xs ++ [v] := by simp
    rw [e]
    exact h⟩
theorem r_ixS {z : Str} {k : Int} {c : Nat} (hl : z.length ≤ 90000) (ha : atI z.cps.toList k = some c) (h : Q (.str ⟨#[c]⟩) H) : rIxS (.str z) (.int k) H Q := ⟨z, k, c, rfl, rfl, Nat.le_trans hl (by decide), ha, h⟩
theorem r_addS {a b : Str} (hl : a.length + b.length ≤ 90000) (h : Q (.str (a ++ b)) H) : rAddStr (.str a) (.str b) H Q := ⟨a, b, rfl, rfl, Nat.le_trans hl (by decide), h⟩
theorem r_sl {r : V → Option Int → Option Int → Hp → VK → Prop} {tl th : TO} (h : te σ H fun x H1 => tl σ H1 fun l H2 => th σ H2 fun u H3 => r x l u H3 Q) : tSl r te tl th σ H Q := h
theorem r_nopart {QO : Option Int → Hp → Prop} (h : QO none H) : tNoPart σ H QO := h
theorem r_part {QO : Option Int → Hp → Prop} (h : te σ H fun x H1 => ∃ i, x = .int i ∧ QO (some i) H1) : tPart te σ H QO := h
theorem r_exI {a : Int} {A : Int → Prop} (h : A a) : ∃ i, V.int a = V.int i ∧ A i := ⟨a, rfl, h⟩
theorem r_slS {z : Str} {lo hi : Option Int} (hl : z.length ≤ 90000) (h : Q (.str (cutS z lo hi)) H) : rSlS (.str z) lo hi H Q := ⟨z, rfl, Nat.le_trans hl (by decide), h⟩
theorem r_inL {neg : Bool} {p : Addr} {xs : List V} (hs : SqL K H p xs) (hx : flatV x = true) (ha : xs.all flatV = true) (h : Q (.bl (if neg then !inV x xs else inV x xs)) H) : rIn K neg x (.ref p) H Q := ⟨p, xs, rfl, .inl hs, hx, ha, h⟩
theorem r_inT {neg : Bool} {p : Addr} {xs : List V} (hs : SqT K H p xs) (hx : flatV x = true) (ha : xs.all flatV = true) (h : Q (.bl (if neg then !inV x xs else inV x xs)) H) : rIn K neg x (.ref p) H Q := ⟨p, xs, rfl, .inr hs, hx, ha, h⟩
theorem flat_strs (ss : List Str) : (ss.map V.str).all flatV = true := by
  rw [List.all_eq_true]
  intro x hx
  obtain ⟨z, _, rfl⟩ := List.mem_map.mp hx
  rfl
theorem flat_ints (ss : List Int) : (ss.map V.int).all flatV = true := by
  rw [List.all_eq_true]
  intro x hx
  obtain ⟨z, _, rfl⟩ := List.mem_map.mp hx
  rfl
theorem cutS_le (z : Str) (k : Nat) : (cutS z none (some (k : Int))).length ≤ k := by
  show (((z.cps.toList.drop (HT.sIx z.length 0 none)).take (HT.sIx z.length z.length (some (k : Int)) - HT.sIx z.length 0 none)).toArray).size ≤ k
  rw [List.size_toArray, List.length_take, HT.sIx_none, HT.sIx_nat]
  omega
theorem str_cat (a b : Str) : (a ++ b).length = a.length + b.length := PySem.Str.length_append a b
theorem len_one (c : Nat) : (⟨#[c]⟩ : Str).length = 1 := rfl
theorem r_isi {b : Bool} {m : String} {ty : Value} (hx : TyX K H x ty) (hk : PySem.W.kitOne K ty (.type m) = some b) (h : Q (.bl b) H) : rIsi K [x, .ty m] H Q := ⟨x, .ty m, ty, .type m, b, rfl, .ty m, hx, hk, h⟩
theorem r_isTup {p : Addr} {xs : List V} (hp : H p = some (.tup xs)) (h : Q (.bl true) H) : rIsi K [.ref p, .ty "tuple"] H Q := r_isi (.base (.tup hp)) (kit_ty (by decide +kernel)) h
theorem r_isInt {a : Int} (h : Q (.bl true) H) : rIsi K [.int a, .ty "int"] H Q := r_isi (.base (.int a)) (kit_ty (by decide +kernel)) h
theorem r_isBool {a : Int} (h : Q (.bl false) H) : rIsi K [.int a, .ty "bool"] H Q := r_isi (.base (.int a)) (kit_ty (by decide +kernel)) h
theorem r_chain (h : ta σ H fun x H1 => tb σ H1 fun y H2 => r x y H2 fun z H3 => ∃ k, z = .bl k ∧ (if k = true then tc σ H3 fun w' H4 => r' y w' H4 Q else Q (.bl false) H3)) : tChain r r' ta tb tc σ H Q := h
theorem r_app {p : Addr} {xs : List V} (h : ta σ H fun x H1 => tyV K "list" x H1 ∧ tr σ H1 fun xs H2 => rAppend x xs H2 Q) : tBM K "list" rAppend ta tr σ H Q := h
theorem r_ite {c : Bool} {A B : Prop} (h1 : c = true → A) (h2 : c = false → B) : if c = true then A else B := by
  cases c with
  | true => exact h1 rfl
  | false => exact iteF (h2 rfl)
end
theorem ixN_nat {n j : Nat} (h : j < n) : ixN n (j : Int) = some j := by
  unfold ixN
  rw [if_pos (by omega), if_pos (by omega)]
  rfl
theorem ixN_last {n : Nat} (h : 0 < n) : ixN n (-1) = some (n - 1) := by
  unfold ixN
  rw [if_neg (by omega), if_pos (by omega)]
  congr 1
  omega
theorem atI_neg1 {α : Type} {xs : List α} {v : α} (h : xs[xs.length - 1]? = some v) : atI xs (-1) = some v := by
  have hp : 0 < xs.length := by
    cases xs with
    | nil => simp at h
    | cons a r => simp
  unfold atI
  rw [ixN_last hp]
  exact h
theorem atI_of {α : Type} {xs : List α} {k : Int} {j : Nat} {v : α} (e : k = (j : Int)) (h : xs[j]? = some v) : atI xs k = some v := by
  rw [e]
  exact atI_nat h
theorem sz_le {n : Nat} (h : n ≤ 100000) : n ≤ sizeLine := Nat.le_trans h (by decide)
theorem sz_lt {n : Nat} (h : n < 100000) : n < sizeLine := Nat.lt_of_lt_of_le h (by decide)
local macro_rules | `(tactic| walk_at "st") => `(tactic| first
  | ((with_reducible refine' r_var ?k1 ?_); (case k1 => exact rfl))
  | (with_reducible refine r_c ?_)
  | (with_reducible refine r_nx ?_)
  | (with_reducible refine r_rt ?_)
  | (with_reducible refine r_bk ?_)
  | (with_reducible refine r_ct ?_)
  | (with_reducible refine r_op ?_)
  | (with_reducible refine r_I0 ?_)
  | ((with_reducible refine' r_mod ?k1 ?_); (case k1 => omega))
  | ((with_reducible refine' r_mul ?k1 ?_); (case k1 => omega))
  | ((with_reducible refine' r_fdiv ?k1 ?_); (case k1 => omega))
  | (with_reducible refine r_seq ?_)
  | (with_reducible refine r_asg ?_)
  | (with_reducible refine r_name ?_)
  | (with_reducible refine r_cons ?_)
  | (with_reducible refine r_nil ?_)
  | (with_reducible refine r_cb ?_)
  | (with_reducible refine r_ret ?_)
  | (with_reducible refine r_ifS ?_)
  | (with_reducible refine r_test ?_)
  | (with_reducible refine r_tB ?_)
  | (with_reducible refine r_int ?_)
  | (with_reducible refine r_next ?_)
  | (with_reducible refine r_drop ?_)
  | (with_reducible refine r_un ?_)
  | (with_reducible refine r_U ?_)
  | (with_reducible refine r_gsub ?_)
  | (with_reducible refine r_call ?_)
  | (with_reducible refine r_eqI ?_)
  | (with_reducible refine r_neI ?_)
  | (with_reducible refine r_eqS ?_)
  | (with_reducible refine r_and ?_)
  | (with_reducible refine r_or ?_)
  | (with_reducible refine r_not ?_)
  | (with_reducible refine r_andV ?_)
  | (with_reducible refine r_bl ?_)
  | (with_reducible refine r_tup ?_)
  | (with_reducible refine r_lst' ?_)
  | (with_reducible refine r_dput ?_)
  | (with_reducible refine r_abs ?_)
  | (with_reducible refine r_min2 ?_)
  | (with_reducible refine r_max2 ?_)
  | (with_reducible refine r_brk ?_)
  | (with_reducible refine r_rng1 ?_)
  | (with_reducible refine r_rng2 ?_)
  | (with_reducible refine r_for ?_)
  | (with_reducible refine r_chain ?_)
  | (with_reducible refine r_isInt ?_)
  | (with_reducible refine r_isBool ?_)
  | (with_reducible refine r_bm0 ?_)
  | (with_reducible refine r_sl ?_)
  | (with_reducible refine r_nopart ?_)
  | (with_reducible refine r_part ?_)
  | (with_reducible refine r_exI ?_)
  | (with_reducible refine r_bm ?_)
  | (with_reducible refine r_list ?_)
  | (with_reducible refine r_itup ?_))
local macro_rules | `(tactic| walk_at "go") => `(tactic| repeat walk_at "st")
/-! ### heaps -/
theorem same_upd {H : Hp} {p : Addr} {o : HO} (h : H p = none) : Same H (upd H p o) := fun b x e => by
  rw [upd_ne (ne_of_none e h)]
  exact e
/-- an object that H does not know may change -/
theorem Same.mut {H H' : Hp} {p : Addr} {o : HO} (e : Same H H') (h : H p = none) : Same H (upd H' p o) := fun b x ha => by
  rw [upd_ne (ne_of_none ha h)]
  exact e b x ha
/-- all but p and g stay -/
def But2 (p g : Addr) (H H' : Hp) : Prop := ∀ b o, H b = some o → b ≠ p → b ≠ g → H' b = some o
theorem But2.refl {p g : Addr} {H : Hp} : But2 p g H H := fun _ _ e _ _ => e
theorem But2.trans {p g : Addr} {H H1 H2 : Hp} (a : But2 p g H H1) (b : But2 p g H1 H2) : But2 p g H H2 := fun c o e h1 h2 => b c o (a c o e h1 h2) h1 h2
theorem But2.of {p g : Addr} {H H' : Hp} (a : Same H H') : But2 p g H H' := fun c o e _ _ => a c o e
theorem But2.seq {p g : Addr} {K : PySem.W.Frag} {H H' : Hp} {a : Addr} {xs : List V} (e : But2 p g H H') (h : SqL K H a xs) (h1 : a ≠ p) (h2 : a ≠ g) : SqL K H' a xs := by
  rcases h with (h | ⟨o, h⟩) | h
  · exact .inl (.inl (e _ _ h h1 h2))
  · exact .inl (.inr ⟨o, e _ _ h h1 h2⟩)
  · exact .inr h
/-- fresh after: fresh before, where p and g are known -/
theorem But2.free {p g : Addr} {H H' : Hp} (e : But2 p g H H') {l : Addr} (h : H' l = none) (hp : H' p ≠ none) (hg : H' g ≠ none) : H l = none := by
  cases q : H l with
  | none => rfl
  | some o =>
    have n1 : l ≠ p := fun z => hp (by rw [← z]; exact h)
    have n2 : l ≠ g := fun z => hg (by rw [← z]; exact h)
    rw [e l o q n1 n2] at h
    cases h
/-- all but d stays -/
def But1 (d : Addr) (H H' : Hp) : Prop := ∀ b o, H b = some o → b ≠ d → H' b = some o
/-- the drawing's pool at p, its row of great numbers at g -/
structure PoolAt (H : Hp) (p g : Addr) : Prop where
  ne : p ≠ g
  ex : ∃ (ns : List Int) (m c : Int), H p = some (.lst [.ref g, .int m, .int c]) ∧ H g = some (.lst (ns.map V.int)) ∧ ns.length ≤ 63 ∧ 0 ≤ m ∧ m < 2147483647
theorem PoolAt.keep {H H' : Hp} {p g : Addr} (a : PoolAt H p g) (e : Same H H') : PoolAt H' p g := by
  obtain ⟨n, ns, m, c, h1, h2, r⟩ := a
  exact ⟨n, ns, m, c, e _ _ h1, e _ _ h2, r⟩
theorem PoolAt.np {H : Hp} {p g : Addr} (a : PoolAt H p g) : H p ≠ none := by
  obtain ⟨n, ns, m, c, h1, h2, r⟩ := a
  rw [h1]
  exact fun z => nomatch z
theorem PoolAt.ng {H : Hp} {p g : Addr} (a : PoolAt H p g) : H g ≠ none := by
  obtain ⟨n, ns, m, c, h1, h2, r⟩ := a
  rw [h2]
  exact fun z => nomatch z
section
open PySem PySem.Spec PyProof.Rows L2
abbrev DT := List (List Key × V)
/-- the key (letter, name) -/
abbrev key (c n : Str) : List Key := [.inr c, .inr n]
theorem key_inj {c n c' n' : Str} (h : key c n = key c' n') : c = c' ∧ n = n' := by
  injection h with h1 h2
  injection h2 with h2 _
  exact ⟨Sum.inr.inj h1, Sum.inr.inj h2⟩
section
variable {κ : Type} [DecidableEq κ]
theorem valV_mem {kvs : List (κ × V)} {k : κ} {v : V} (h : valV kvs k = some v) : (k, v) ∈ kvs := by
  unfold valV at h
  rw [Option.map_eq_some_iff] at h
  obtain ⟨⟨a, b⟩, h1, h2⟩ := h
  have e := List.find?_some h1
  have e2 : a = k := of_decide_eq_true e
  have m := List.mem_of_find?_eq_some h1
  have h2 : b = v := h2
  rw [← e2, ← h2]
  exact m
theorem mem_valV {kvs : List (κ × V)} {k : κ} {v : V} (nd : (kvs.map (·.1)).Nodup) (h : (k, v) ∈ kvs) : valV kvs k = some v := by
  induction kvs with
  | nil => cases h
  | cons p r ih =>
    rw [List.map_cons, List.nodup_cons] at nd
    rcases List.mem_cons.mp h with e | h
    · rw [← e]
      exact valV_pos rfl
    · have hne : ¬ p.1 = k := fun z => nd.1 (by rw [z]; exact List.mem_map.mpr ⟨_, h, rfl⟩)
      rw [valV_neg hne]
      exact ih nd.2 h
theorem putK_old {kvs : List (κ × V)} {k : κ} (v : V) (h : (valV kvs k).isSome = true) : putK kvs k v = kvs.map (fun kv => if kv.1 = k then (kv.1, v) else kv) := by
  unfold putK
  rw [valV_any, if_pos h]
theorem putK_keys {kvs : List (κ × V)} {k : κ} (v : V) (h : (valV kvs k).isSome = true) : (putK kvs k v).map (·.1) = kvs.map (·.1) := by
  rw [putK_old v h, List.map_map]
  refine List.map_congr_left fun p _ => ?_
  show (if p.1 = k then (p.1, v) else p).1 = p.1
  split <;> rfl
theorem putK_nd {kvs : List (κ × V)} {k : κ} (v : V) (nd : (kvs.map (·.1)).Nodup) : ((putK kvs k v).map (·.1)).Nodup := by
  cases h : valV kvs k with
  | none =>
    rw [putK_new v h, List.map_append]
    refine List.nodup_append.mpr ⟨nd, by simp, fun a ha b hb => ?_⟩
    simp only [List.map_cons, List.map_nil, List.mem_singleton] at hb
    rintro rfl
    rw [hb] at ha
    obtain ⟨⟨x, y⟩, hm, hx⟩ := List.mem_map.mp ha
    have hx : x = k := hx
    rw [hx] at hm
    rw [mem_valV nd hm] at h
    cases h
  | some x =>
    rw [putK_keys v (by rw [h]; rfl)]
    exact nd
theorem putK_len {kvs : List (κ × V)} {k : κ} (v : V) : (putK kvs k v).length ≤ kvs.length + 1 := by
  unfold putK
  split
  · rw [List.length_map]
    omega
  · rw [List.length_append]
    simp
theorem putK_mem {kvs : List (κ × V)} {k : κ} {v : V} {p : κ × V} (h : p ∈ putK kvs k v) : p ∈ kvs ∨ p = (k, v) := by
  unfold putK at h
  split at h
  · obtain ⟨q, hq, e⟩ := List.mem_map.mp h
    split at e
    · rename_i hk
      rw [hk] at e
      exact .inr e.symm
    · rw [← e]
      exact .inl hq
  · rcases List.mem_append.mp h with h | h
    · exact .inl h
    · exact .inr (List.mem_singleton.mp h)
end
/-- the years: pairs (letter, name) to ints; a unit begins at 0 or later and ends no earlier than it begins -/
structure DAt (kvs : DT) : Prop where
  nd : (kvs.map (·.1)).Nodup
  ks : ∀ e ∈ kvs, ∃ (c n : Str) (i : Int), e = (key c n, .int i)
  be : ∀ (n : Str) (i : Int), valV kvs (key "b" n) = some (.int i) → 0 ≤ i ∧ ∃ j : Int, valV kvs (key "e" n) = some (.int j) ∧ i ≤ j
  ln : kvs.length ≤ 60
theorem be_ne : ¬ ("b" : Str) = "e" := by decide +kernel
theorem DAt.int {kvs : DT} (d : DAt kvs) {k : List Key} {v : V} (h : valV kvs k = some v) : ∃ i : Int, v = .int i := by
  obtain ⟨c, n, i, e⟩ := d.ks _ (valV_mem h)
  exact ⟨i, congrArg Prod.snd e⟩
theorem DAt.nil : DAt [] := ⟨List.nodup_nil, fun _ h => (nomatch h), fun _ _ h => (nomatch h), Nat.zero_le _⟩
theorem DAt.put2 {kvs : DT} (d : DAt kvs) {n : Str} {lo hi : Int} (h0 : 0 ≤ lo) (h1 : lo ≤ hi) (hl : kvs.length ≤ 58) : DAt (putK (putK kvs (key "b" n) (.int lo)) (key "e" n) (.int hi)) := by
  refine ⟨putK_nd _ (putK_nd _ d.nd), fun e he => ?_, fun m i hm => ?_, ?_⟩
  · rcases putK_mem he with he | rfl
    · rcases putK_mem he with he | rfl
      · exact d.ks e he
      · exact ⟨_, _, _, rfl⟩
    · exact ⟨_, _, _, rfl⟩
  · rw [valV_put, if_neg (fun z => be_ne (key_inj z).1), valV_put] at hm
    rw [valV_put, valV_put]
    by_cases e : m = n
    · subst e
      rw [if_pos rfl] at hm
      cases hm
      exact ⟨h0, hi, by rw [if_pos rfl], h1⟩
    · rw [if_neg (fun z => e (key_inj z).2)] at hm
      obtain ⟨i0, j, hj, ij⟩ := d.be m i hm
      exact ⟨i0, j, by rw [if_neg (fun z => e (key_inj z).2), if_neg (fun z => be_ne (key_inj z).1.symm)]; exact hj, ij⟩
  · have e1 := putK_len (kvs := kvs) (k := key "b" n) (.int lo)
    have e2 := putK_len (kvs := putK kvs (key "b" n) (.int lo)) (k := key "e" n) (.int hi)
    omega
/-- another letter than b and e -/
theorem DAt.put1 {kvs : DT} (d : DAt kvs) {c n : Str} {i : Int} (hb : ¬ c = "b") (he : ¬ c = "e") (hl : kvs.length ≤ 59) : DAt (putK kvs (key c n) (.int i)) := by
  refine ⟨putK_nd _ d.nd, fun e he => ?_, fun m i hm => ?_, ?_⟩
  · rcases putK_mem he with he | rfl
    · exact d.ks e he
    · exact ⟨_, _, _, rfl⟩
  · rw [valV_put, if_neg (fun z => hb (key_inj z).1.symm)] at hm
    rw [valV_put, if_neg (fun z => he (key_inj z).1.symm)]
    exact d.be m i hm
  · have e1 := putK_len (kvs := kvs) (k := key c n) (.int i)
    omega
/-- a beginning made earlier -/
theorem DAt.putB {kvs : DT} (d : DAt kvs) {n : Str} {i k : Int} (h : valV kvs (key "b" n) = some (.int i)) (h0 : 0 ≤ k) (h1 : k ≤ i) : DAt (putK kvs (key "b" n) (.int k)) := by
  refine ⟨putK_nd _ d.nd, fun e he => ?_, fun m x hm => ?_, ?_⟩
  · rcases putK_mem he with he | rfl
    · exact d.ks e he
    · exact ⟨_, _, _, rfl⟩
  · rw [valV_put] at hm
    rw [valV_put, if_neg (fun z => be_ne (key_inj z).1.symm)]
    by_cases e : m = n
    · subst e
      rw [if_pos rfl] at hm
      cases hm
      obtain ⟨_, j, hj, ij⟩ := d.be _ _ h
      exact ⟨h0, j, hj, by omega⟩
    · rw [if_neg (fun z => e (key_inj z).2)] at hm
      exact d.be m x hm
  · have e2 := congrArg List.length (putK_keys (kvs := kvs) (k := key "b" n) (.int k) (by rw [h]; rfl))
    rw [List.length_map, List.length_map] at e2
    rw [e2]
    exact d.ln
/-! ### the units -/
def ukey (e : List Key × V) : Option Str := match e.1 with
  | [.inr c, .inr n] => if c = "b" then some n else none
  | _ => none
def ukeys (kvs : DT) : List Str := kvs.filterMap ukey
theorem ukey_key {c n : Str} {v : V} : ukey (key c n, v) = if c = "b" then some n else none := rfl
theorem mem_ukeys {kvs : DT} {n : Str} : n ∈ ukeys kvs ↔ ∃ v, (key "b" n, v) ∈ kvs := by
  unfold ukeys
  rw [List.mem_filterMap]
  constructor
  · rintro ⟨⟨k, v⟩, hm, hu⟩
    unfold ukey at hu
    split at hu
    · rename_i c m e
      split at hu
      · rename_i hc
        cases hu
        have e : k = [Sum.inr c, Sum.inr n] := e
        rw [hc] at e
        exact ⟨v, by rw [e] at hm; exact hm⟩
      · cases hu
    · cases hu
  · rintro ⟨v, hm⟩
    exact ⟨_, hm, by rw [ukey_key, if_pos rfl]⟩
theorem ukeys_val {kvs : DT} (d : DAt kvs) {n : Str} : n ∈ ukeys kvs ↔ ∃ i : Int, valV kvs (key "b" n) = some (.int i) := by
  rw [mem_ukeys]
  constructor
  · rintro ⟨v, hm⟩
    have h := mem_valV d.nd hm
    obtain ⟨i, rfl⟩ := d.int h
    exact ⟨i, h⟩
  · rintro ⟨i, h⟩
    exact ⟨_, valV_mem h⟩
theorem ukeys_nd {kvs : DT} (nd : (kvs.map (·.1)).Nodup) : (ukeys kvs).Nodup := by
  induction kvs with
  | nil => exact List.nodup_nil
  | cons p r ih =>
    rw [List.map_cons, List.nodup_cons] at nd
    unfold ukeys
    rw [List.filterMap_cons]
    cases h : ukey p with
    | none => exact ih nd.2
    | some n =>
      refine List.nodup_cons.mpr ⟨fun hm => ?_, ih nd.2⟩
      obtain ⟨v, hv⟩ := mem_ukeys.mp (show n ∈ ukeys r from hm)
      refine nd.1 ?_
      have e : p.1 = key "b" n := by
        unfold ukey at h
        split at h
        · rename_i c m e
          split at h
          · rename_i hc
            cases h
            rw [e, hc]
          · cases h
        · cases h
      rw [e]
      exact List.mem_map.mpr ⟨_, hv, rfl⟩
theorem ukeys_len (kvs : DT) : (ukeys kvs).length ≤ kvs.length := List.length_filterMap_le _ _
theorem ukeys_snoc {kvs : DT} {i : Nat} {e : List Key × V} (h : kvs[i]? = some e) : ukeys (kvs.take (i + 1)) = ukeys (kvs.take i) ++ (ukey e).toList := by
  unfold ukeys
  rw [List.take_add_one, h, List.filterMap_append]
  show _ ++ List.filterMap ukey [e] = _
  rw [List.filterMap_cons]
  cases ukey e <;> rfl
end
section
open PySem PySem.Spec PyProof.Rows L2
section
variable {prog : Program} {w : World} {κ : Type} [DecidableEq κ] {kd : HeapKind prog w κ} {A : Around} {E : Value → Shared → Prop} {s : Shared}
/-- two dicts of heap keys that show the same values: == walks the first one -/
theorem same_heap {nm : String} {a b : Addr} {xa xb : List (κ × Addr × Value)} {Q : Bool → Shared → Prop} (na : (a == sysModules) = false) (nb : (b == sysModules) = false) (hu : kd.room A)
    (da : s.heap.DictOfH kd a xa) (db : s.heap.DictOfH kd b xb) (hl : xa.length = xb.length)
    (hv : ∀ k c v, (k, c, v) ∈ xa → ∃ p, atKey xb k = some p ∧ ∀ (R E : _ → Shared → Prop), R true s → wpAny (model prog w) A (eqBool v p.2) R E s) (h : Q true s) : wpAny (model prog w) A (Builtin.Dict.samePairs nm a b) Q E s := by
  obtain ⟨oa, ea, pa, la, _, qa, ta, ia, ka⟩ := da
  obtain ⟨ob, eb, pb, lb, _, qb, tb, ib, kb⟩ := db
  have za : ea.size = xa.length := size_of_entries ta
  have zb : eb.size = xb.length := size_of_entries tb
  unfold Builtin.Dict.samePairs Builtin.Dict.showsAll
  rw [if_neg (show ¬ (a == sysModules) = true by rw [na]; simp), if_neg (show ¬ (b == sysModules) = true by rw [nb]; simp)]
  refine wpAny_bind (wpAny_pure (wpAny_bind (wpAny_pure (wpAny_bind (wpAny_dictEntries la qa ?_)))))
  dsimp only
  refine wpAny_bind (wpAny_dictEntries lb qb ?_)
  rw [if_neg (by rw [za, zb, hl]; simp)]
  refine wpAny_bind (wpAny_dictEpoch la qa (wpAny_bind ?_))
  rw [Std.Legacy.Range.forIn_eq_forIn_range']
  simp only [Std.Legacy.Range.size, Nat.sub_zero, Nat.add_sub_cancel, Nat.div_one]
  refine wpAny_forIn_list _ (fun rest q t => t = s ∧ q = (none, ()) ∧ ∃ i, i ≤ ea.size ∧ rest = List.range' i (ea.size - i)) _ ?_ ?_ _ _ ⟨rfl, rfl, 0, Nat.zero_le _, by simp⟩
  · rintro x rest q t ⟨rfl, rfl, i, hi, hr⟩
    have hlt : i < ea.size := by
      by_cases z : i < ea.size
      · exact z
      · rw [Nat.sub_eq_zero_of_le (Nat.le_of_not_lt z)] at hr
        cases hr
    rw [show ea.size - i = (ea.size - (i + 1)) + 1 by omega, List.range'_succ] at hr
    injection hr with h1 h2
    subst h1
    have hx : x < xa.length := by omega
    obtain ⟨k, c, v⟩ : κ × Addr × Value := xa[x]
    obtain ⟨k, c, v, hg⟩ : ∃ k c v, xa[x]? = some (k, c, v) := ⟨_, _, _, List.getElem?_eq_getElem hx⟩
    have he : ea[x]? = some ⟨kd.hash k, .ref c, v⟩ := by
      rw [entry_at ta x, hg]
      rfl
    have hm : (k, c, v) ∈ xa := List.mem_of_getElem? hg
    obtain ⟨p, hp, heq⟩ := hv k c v hm
    refine wpAny_bind (wpAny_dictEntries la qa ?_)
    rw [he]
    dsimp only
    refine wpAny_bind (wpAny_holding (wpAny_bind (wpAny_dictFind_heap hu (ia _ hm) lb qb tb ib kb (fun hno => ?_) (fun j p' hj => ?_))))
    · rw [atKey_none_of_get hno] at hp
      cases hp
    · have ep : p' = p := Option.some.inj ((atKey_of_get kb hj).symm.trans hp)
      subst ep
      have hf : eb[j]? = some ⟨kd.hash k, .ref p'.1, p'.2⟩ := by
        rw [entry_at tb j, hj]
        rfl
      dsimp only
      refine wpAny_bind (wpAny_dictEntries lb qb ?_)
      rw [hf]
      dsimp only
      refine wpAny_holding (heq _ _ ?_)
      show wpAny _ _ (if (!true) = true then _ else _) _ _ _
      rw [if_neg (by decide)]
      refine wpAny_bind (wpAny_dictEpoch la qa ?_)
      rw [if_neg (by simp)]
      exact wpAny_pure ⟨rfl, rfl, x + 1, hlt, h2⟩
  · rintro q t ⟨rfl, rfl, i, hi, hr⟩
    exact wpAny_pure h
end
section
variable {X : Cx}
/-- == of two dicts with tuple keys: the same ints -/
def rEqDT : R2 := fun x y H Q => ∃ (a b : Addr) (ks ls : DT), x = .ref a ∧ y = .ref b ∧ H a = some (.dT ks) ∧ H b = some (.dT ls) ∧ ks.length = ls.length ∧ (∀ p ∈ ks, ∃ i : Int, p.2 = .int i ∧ valV ls p.1 = some (.int i)) ∧ Q (.bl true) H
theorem op_eqDT (hu : X.A.units + 1 < cLine) : OpR X (compareOp .Eq) rEqDT := by
  intro pins s σ H x y v u Q I rx ry h
  obtain ⟨a, b, ks, ls, rfl, rfl, ea, eb, hl, hp, q⟩ := h
  obtain rfl : v = Value.ref a := rx
  obtain rfl : u = Value.ref b := ry
  obtain ⟨_, na, xa, ra, da⟩ := dt_of I.hok ea
  obtain ⟨_, nb, xb, rb, db⟩ := dt_of I.hok eb
  have hlen : xa.length = xb.length := by rw [← Paired.length ra, ← Paired.length rb]; exact hl
  refine wpAny_richCompare_same_room (op := .Eq) da.typeIs db.typeIs PySem.F.slot_dict_eq (wpAny_call_entry PySem.F.slot_dict_eq da.typeIs PySem.F.entry_dict_eq ?_ (PySem.F.args_dict_eq_2 _ _)) (by omega)
  show wpAny _ _ (Builtin.Dict.dictSlotArgs "__eq__" ⟨[.ref a, .ref b], []⟩ >>= _) _ _ s
  refine wpAny_bind ?_
  unfold Builtin.Dict.dictSlotArgs
  refine wpAny_bind (wpAny_notOrdered_dict da.typeIs ?_)
  show wpAny _ _ (pure (Value.ref a, Value.ref b)) _ _ s
  refine wpAny_pure (wpAny_bind (wpAny_isInstance (T := "dict") db.typeIs PySem.F.sub_dict_dict ?_))
  simp only [Bool.not_true, Bool.false_eq_true, if_false]
  refine wpAny_bind (wpAny_pure (wpAny_bind (wpAny_pure (wpAny_bind (same_heap (kd := tupleKind (mixKind X.prog X.w)) na nb (tupleKind_room_in1 hu) da db hlen (fun k c z hm => ?_) ?_)))))
  · obtain ⟨j, hj⟩ := List.getElem?_of_mem hm
    obtain ⟨p, hpj, e1, e2, e3⟩ := L2.DX.pget ra hj
    obtain ⟨i, ei, el⟩ := hp p (List.mem_of_getElem? hpj)
    have e1 : p.1 = k := e1
    rw [ei] at e3
    obtain ⟨t1, ez⟩ : ∃ t, z = Value.int i t := e3
    rw [e1] at el
    have r := rb.val k
    rw [el] at r
    cases hk : atKey xb k with
    | none =>
      rw [hk] at r
      exact False.elim r
    | some p2 =>
      rw [hk] at r
      obtain ⟨t2, e4⟩ : ∃ t, p2.2 = Value.int i t := r
      refine ⟨p2, rfl, fun R E hR => ?_⟩
      rw [ez, e4]
      refine wpAny_eqBool_int ?_
      rw [beq_self_eq_true]
      exact hR
  · exact wpAny_pure ⟨_, rfl, fun z => (nomatch z), ⟨.bl true, H, I, rfl, q⟩⟩
end
end
section
open PySem PySem.Spec PyProof.Rows L2 LamX NdefX
/-! ### a lambda with parameters and captured names -/
/-- the object at f is the lambda F of the body e -/
def LamAt (h : Heap) (f : Addr) (F : NF) (e : Expr) : Prop := ∃ pm ctv, h.get? f = some (PySem.W.kla_obj F.name F.qual F.params e F.scope F.cl pm F.c ctv)
theorem lam_run {P : Program} {w : World} {K : PySem.W.Frag} {mg : Str → Option Value} {base : Heap} {N ps fr : List Str} {F : NF} {f : Addr} {k : Nat} {e : Expr} {t : TE} (S : NScope N ps fr F.scope)
    (hb : ∀ (pm ctv : Value) (us : List Value), us.length = ps.length → bindArgs (PySem.W.kla_fn F.name F.qual F.params e F.scope F.cl pm (.ref F.c) ctv) ⟨us, []⟩ = pure (ps.zip us))
    {A : Around} {outer : List Env} {s : Shared} {H : Hp} {us : List Value} {vs : List V} {ws : List (Option V)} {Q : VK} (hr : Room (k + 1) A) (e0 : Env0 P w K mg base A outer s H) (hf : LamAt s.heap f F e) (hc : H F.c = some (CodeO F.c F.qual))
    (C : CellsAt F.cl fr ws s.heap H) (r : Vals vs us) (hl : vs.length = ps.length) (hbody : Room k (A.deeper (envF F f s.heap.objs.size)) → PE (ncx C8.CX0 P w K mg base N F f A outer s H C8.E0) e t) (ht : t (startF N vs ws) H Q) :
    codeAny (model P w) A (.call (.ref f) ⟨us, []⟩) (CR C8.CX0 outer P w H s Q C8.E0) s := by
  obtain ⟨pm, ctv, ho⟩ := hf
  have lim : s.heap.NoLimit := e0.mod.nolimit.keeps fun b o e => (e0.bs b o e).1
  refine PySem.W.kla_callFunE hr.depth ho rfl S.co S.gen rfl (codeO_at e0.hok hc) ?_
  rw [hb pm ctv us (by rw [← r.length]; exact hl)]
  refine wpAny_pure (wpAny_newFunctionEnv S.nocell (fun ⟨n, _⟩ hy => S.par n (List.of_mem_zip hy).1) (fun g hns hsb => ⟨lim.fresh _ hsb, ?_⟩) S.kind)
  show codeAny _ _ (.expr e (envF F f s.heap.objs.size)) _ _
  have kp : ∀ b o, s.heap.get? b = some o → g.get? b = some o := fun b o z => hsb.extBut b o (Nat.ne_of_lt (Heap.lt_size z)) (Heap.get?_push_of_some _ z)
  have I : Inv (ncx C8.CX0 P w K mg base N F f A outer s H C8.E0) [] (startF N vs ws) H { s with heap := g, toks := s.toks + (ps.zip us).length } := inv_startN S hr.hd e0 hl r C hns kp
  refine PySem.W.kla_codeExpr (wpAny_mono ((hbody (hr.deeper _)).run [] _ _ H Q I ht) (fun v s' hq => ?_) fun e s' hq => hq)
  obtain ⟨x, H', J, rv, q⟩ := hq
  exact ⟨x, H', J.os, J.bare, J.base, J.hok, rv, q⟩
/-! ### sorted(l, key=f): f any function of ours that the abstract heap does not know -/
section
variable {prog : Program} {w : World} {A : Around} {E : Value → Shared → Prop} {s : Shared} {a kS : Addr} {vs : List Value} {kz : List Int} {keys : Array Value} {n e1 : Nat} {R : PySem.Fin → Shared → Prop}
/-- the heap behind the sort: the keys' list emptied, the sorted one filled -/
abbrev srtH (h : Heap) (a kS : Addr) (out : Array Value) : Heap := (h.update kS (Obj.mapSeq fun _ => (#[] : Array Value))).update a (Obj.mapSeq fun _ => out)
theorem srt_tail {st : SortSt} (nk : s.heap.get? kS = some (seqObj "list" keys n)) (na : s.heap.get? a = some (seqObj "list" #[] e1)) (hka : kS ≠ a) (hk : IntsAre keys.toList kz) (hlen : kz.length = vs.length) (hZ : vs.length ≤ 1000)
    (hp : (arrOf st).Perm (keys.zip vs.toArray)) (hs : SortedTo (arrOf st) (arrOf st).size) (hfl : failedOf st = none) (h : ∀ out : Array Value, KskOut false kz vs out.toList → R (.done (.ret .none)) { s with heap := srtH s.heap a kS out }) :
    wpAny (model prog w) A (ksk_tail a false e1 (.ref kS) st) R E s := by
  have hsz : keys.size = vs.length := by
    have z := hk.length
    rw [Array.length_toList] at z
    omega
  have hsz2 : ((arrOf st).map (·.2)).size = vs.length := by rw [Array.size_map, hp.size_eq, Array.size_zip, hsz, List.size_toArray, Nat.min_self]
  have na1 : (s.heap.update kS (Obj.mapSeq fun _ => (#[] : Array Value))).get? a = some (seqObj "list" #[] e1) := (Heap.get?_update_ne _ _ _ _ hka.symm).trans na
  unfold ksk_tail
  try dsimp only
  refine wpAny_bind (listUpdate_at nk rfl ?_ (by rw [hsz, sizeLine_eq]; omega) (Nat.zero_le _))
  refine wpAny_bind (wpAny_letGo (wpAny_bind (seqEpoch_at na1 rfl ?_)))
  refine wpAny_bind (listUpdate_at na1 rfl ?_ (Nat.zero_le _) (by show ((arrOf st).map (·.2)).size ≤ _; rw [hsz2, sizeLine_eq]; omega))
  rw [hfl]
  simp only [bne_self_eq_false, Bool.false_eq_true, if_false]
  refine wpAny_pure (h _ ?_)
  have := ksk_out (b := false) hk hp hs
  simpa using this
theorem srt_end (nk : s.heap.get? kS = some (seqObj "list" keys n)) (na : s.heap.get? a = some (seqObj "list" #[] e1)) (hka : kS ≠ a) (hk : IntsAre keys.toList kz) (hlen : kz.length = vs.length) (hZ : vs.length ≤ 60)
    (h : ∀ out : Array Value, KskOut false kz vs out.toList → R (.done (.ret .none)) { s with heap := srtH s.heap a kS out }) :
    wpAny (model prog w) A (ksk_end a false vs.toArray e1 (.ref kS) keys) R E s := by
  have hsz : keys.size = vs.length := by
    have z := hk.length
    rw [Array.length_toList] at z
    omega
  have hzs : (keys.zip vs.toArray).size = vs.length := by rw [Array.size_zip, hsz, List.size_toArray, Nat.min_self]
  unfold ksk_end
  simp only [Bool.false_eq_true, if_false]
  by_cases h2 : vs.toArray.size < 2
  · rw [if_pos h2, if_pos h2]
    refine wpAny_bind (wpAny_pure ?_)
    rw [StateT.run_pure]
    refine wpAny_bind (wpAny_pure ?_)
    try dsimp only
    refine srt_tail (st := SortSt.mk' general' (keys.zip vs.toArray) #[] 7 none) nk na hka hk hlen (by omega) (Array.Perm.refl _) ?_ rfl h
    intro i j hij hj
    have hj2 : j < (keys.zip vs.toArray).size := hj
    rw [hzs] at hj2
    rw [List.size_toArray] at h2
    obtain rfl : i = j := by omega
    exact Int.le_refl _
  · rw [if_neg h2, if_neg h2]
    rw [List.size_toArray] at h2
    rw [ksk_kind hk (by rw [hsz]; omega)]
    refine wpAny_bind (wpAny_pure ?_)
    refine wpAny_bind (wpAny_mono (wpS_sortRunsSt (κ := intKind) (a₀ := keys.zip vs.toArray) (st := SortSt.mk' oneType' (keys.zip vs.toArray) #[] 7 none)
      (Q := fun _ st' => (arrOf st').Perm (keys.zip vs.toArray) ∧ failedOf st' = none ∧ SortedTo (arrOf st') (arrOf st').size)
      intKind_oneLt (ksk_keysOfInt (ksk_intKeys hk)) ⟨Array.Perm.refl _, rfl, rfl⟩ rfl (Stable.refl _) (by rw [hzs]; omega)
      fun st' a1 a2 a3 _ => ⟨a1, a2, by rw [a1.size_eq]; exact sortedTo_of_int a3⟩) ?_ fun _ _ e => e)
    rintro ⟨⟨⟩, st'⟩ s' ⟨rfl, hp, hf, hs⟩
    try dsimp only
    exact srt_tail nk na hka hk hlen (by omega) hp hs hf h
end
/-- the text in a value -/
def sv : Value → Str
  | .str z _ => z
  | _ => ""
theorem sv_map : ∀ {us : List Value} {ns : List Str}, StrsAre us ns → us.map sv = ns
  | _, _, .nil => rfl
  | _, _, .cons n t r => congrArg (n :: ·) (sv_map r)
theorem strs_sv : ∀ {us : List Value}, (∀ u ∈ us, ∃ z t, u = Value.str z t) → Vals ((us.map sv).map V.str) us
  | [], _ => .nil
  | u :: us, h => by
    obtain ⟨z, t, rfl⟩ := h _ List.mem_cons_self
    exact .cons ⟨t, rfl⟩ (strs_sv fun v hv => h v (List.mem_cons_of_mem _ hv))
theorem strs_mem : ∀ {us : List Value} {ns : List Str}, StrsAre us ns → ∀ u ∈ us, ∃ z t, u = Value.str z t
  | _, _, .nil, u, h => nomatch h
  | _, _, .cons n t r, u, h => by
    rcases List.mem_cons.mp h with e | h
    · exact ⟨n, t, e⟩
    · exact strs_mem r u h
theorem out_strs {kz : List Int} {its out : List Value} {ns : List Str} (hs : StrsAre its ns) (k : KskOut false kz its out) : ∃ ps : List (Int × Str), ps.Perm (kz.zip ns) ∧ ps.Pairwise (fun x y => x.1 ≤ y.1) ∧ Vals ((ps.map Prod.snd).map V.str) out := by
  obtain ⟨ps, h1, h2, h3⟩ := k
  refine ⟨ps.map fun p => (p.1, sv p.2), ?_, ?_, ?_⟩
  · have z := h1.map (fun p : Int × Value => (p.1, sv p.2))
    have e : (kz.zip its).map (fun p : Int × Value => (p.1, sv p.2)) = kz.zip ns := by
      rw [← sv_map hs, List.zip_map_right]
      exact List.map_congr_left fun ⟨x, y⟩ _ => rfl
    rw [e] at z
    exact z
  · rw [List.pairwise_map]
    exact h3.imp fun {x y} z => by simpa using z
  · have e : (ps.map fun p : Int × Value => (p.1, sv p.2)).map Prod.snd = out.map sv := by
      rw [h2, List.map_map, List.map_map]
      exact List.map_congr_left fun x _ => rfl
    rw [e]
    refine strs_sv fun u hu => ?_
    rw [h2] at hu
    obtain ⟨p, hp, rfl⟩ := List.mem_map.mp hu
    exact strs_mem hs _ (List.of_mem_zip (h1.mem_iff.mp hp)).2
theorem sorted_key {X : Cx} {pins : List (Addr × Obj)} {σ : L2.St} {H : Hp} {s : Shared} {l f : Addr} {o : Obj} {ns : List Str} {kz : List Int} {Q : VK} {E : Value → Shared → Prop} (I : Inv X pins σ H s) (hl : SqL X.K H l (ns.map V.str)) (hlen : kz.length = ns.length) (hZ : ns.length ≤ 60)
    (hfo : s.heap.get? f = some o) (hfn : H f = none) (hfr : f ∉ frs X.stack) (hod : ∀ v, o.data ≠ .cell v) (hfL : f ≠ X.env.locals)
    (turn : ∀ (i : Nat) (x : Str) (n : Int) (t : Tok) (pins' : List (Addr × Obj)) (H' : Hp) (s' : Shared), ns[i]? = some x → kz[i]? = some n → Inv X (pins ++ pins') σ H' s' → Same H H' → s'.heap.get? f = some o →
      wpAny (model X.prog X.w) X.A.in1.in1 (call (.ref f) [.str x t]) (EP X (pins ++ pins') σ (fun v H'' => v = .int n ∧ Same H' H'')) (fun _ _ => False) s')
    (q : ∀ (ps : List (Int × Str)) (p : Addr) (H' : Hp), Same H H' → H' p = none → ps.Perm (kz.zip ns) → ps.Pairwise (fun x y => x.1 ≤ y.1) → Q (.ref p) (upd H' p (.lst ((ps.map Prod.snd).map V.str)))) :
    wpAny (model X.prog X.w) X.A (call (.builtin "sorted") [.ref l] [(Str.ofString "key", .ref f)]) (EP X pins σ Q) E s := by
  obtain ⟨its, rv, hpl, hz⟩ := I.list hl
  have hS : StrsAre its ns := rv.strs
  have lits : its.length = ns.length := by
    have := rv.length
    rw [List.length_map] at this
    exact this.symm
  have hZ2 : its.length ≤ sizeLine := by rw [lits, sizeLine_eq]; omega
  have hfs : f ∉ X.fs := fun z => hfr (by
    rcases I.ok.stk with e | ⟨e, e2⟩
    · rw [e]; exact z
    · rw [e]
      show f ∈ frs (X.env :: X.outer)
      unfold frs
      rw [List.filterMap_cons, e2]
      exact List.mem_cons_of_mem _ z)
  refine call_function_entry_kw kind_sorted plain_sorted entry_sorted (ksk_s1 _ _) ?_
  unfold Builtin.«sorted»
  refine wpAny_bind (m := checkCount "sorted" 1 1 _) (wpAny_pure ?_)
  refine wpAny_bind (collect_list hpl.isList ?_ hZ2)
  refine wpAny_bind (wpAny_newList ?_ hZ2)
  have hsz : ((s.heap.push (seqObj "list" #[] 0)).update s.heap.objs.size (Obj.mapSeq (· ++ its.toArray))).objs.size = s.heap.objs.size + 1 := by
    rw [Heap.size_update, size_push']
  have hoL : (((s.heap.push (seqObj "list" #[] 0)).update s.heap.objs.size (Obj.mapSeq (· ++ its.toArray))).push (seqObj "list" its.toArray 0)).get? (s.heap.objs.size + 1) = some (seqObj "list" its.toArray 0) := by
    rw [← hsz]; exact Heap.get?_push_size _ rfl
  have keep : ∀ b u, s.heap.get? b = some u → (((s.heap.push (seqObj "list" #[] 0)).update s.heap.objs.size (Obj.mapSeq (· ++ its.toArray))).push (seqObj "list" its.toArray 0)).get? b = some u := fun b u z => by
    have hlt : b < s.heap.objs.size := Heap.lt_size z
    rw [Heap.get?_push_ne _ _ _ (by rw [hsz]; exact Nat.ne_of_lt (Nat.lt_succ_of_lt hlt)), Heap.get?_update_ne _ _ _ _ (Nat.ne_of_lt hlt), Heap.get?_push_ne _ _ _ (Nat.ne_of_lt hlt)]
    exact z
  show wpAny _ _ _ _ _ { s with heap := ((s.heap.push (seqObj "list" #[] 0)).update s.heap.objs.size (Obj.mapSeq (· ++ its.toArray))).push (seqObj "list" its.toArray 0) }
  rw [hsz]
  refine wpAny_bind (wpAny_holding (wpAny_call_entry_kw slot_list_sort ⟨_, hoL, rfl⟩ entry_list_sort ?body (ksk_l1 _ _)))
  case body =>
    show wpAny (model X.prog X.w) X.A.in1.in1 (Builtin.«list.sort» ⟨[.ref (s.heap.objs.size + 1)], [(Str.ofString "key", .ref f)]⟩) _ _ _
    rw [ksk_t1]
    have hszL : (((s.heap.push (seqObj "list" #[] 0)).update s.heap.objs.size (Obj.mapSeq (· ++ its.toArray))).push (seqObj "list" its.toArray 0)).objs.size = s.heap.objs.size + 2 := by
      rw [size_push', hsz]
    generalize ((s.heap.push (seqObj "list" #[] 0)).update s.heap.objs.size (Obj.mapSeq (· ++ its.toArray))).push (seqObj "list" its.toArray 0) = g1 at hoL keep hszL ⊢
    clear hsz
    obtain ⟨e1, ho1⟩ : ∃ e1, (g1.update (s.heap.objs.size + 1) (Obj.mapSeq fun _ => (#[] : Array Value))).get? (s.heap.objs.size + 1) = some (seqObj "list" #[] e1) := ⟨_, get?_update_seq hoL fun _ => #[]⟩
    unfold ksk_tree
    refine wpAny_bind (listItems_at hoL rfl ?_)
    refine wpAny_bind (listUpdate_at hoL rfl ?_ (by rw [List.size_toArray]; exact hZ2) (Nat.zero_le _))
    refine wpAny_bind (seqEpoch_at ho1 rfl ?_)
    refine wpAny_bind (wpAny_newTuple ?_ (by show its.length ≤ _; exact hZ2))
    refine wpAny_bind (wpAny_newList ?_ (Nat.zero_le _))
    refine wpAny_holding ?_
    have keep2 : ∀ b u, s.heap.get? b = some u → (((g1.update (s.heap.objs.size + 1) (Obj.mapSeq fun _ => (#[] : Array Value))).push (seqObj "tuple" its.toArray 0)).push (seqObj "list" #[] 0)).get? b = some u := fun b u z => by
      have hlt : b < s.heap.objs.size := Heap.lt_size z
      refine Heap.get?_push_of_some _ (Heap.get?_push_of_some _ ?_)
      rw [Heap.get?_update_ne _ _ _ _ (Nat.ne_of_lt (Nat.lt_succ_of_lt hlt))]
      exact keep b u z
    have hka : (((g1.update (s.heap.objs.size + 1) (Obj.mapSeq fun _ => (#[] : Array Value))).push (seqObj "tuple" its.toArray 0)).push (seqObj "list" #[] 0)).get? (s.heap.objs.size + 1) = some (seqObj "list" #[] e1) := Heap.get?_push_of_some _ (Heap.get?_push_of_some _ ho1)
    have hks : ((g1.update (s.heap.objs.size + 1) (Obj.mapSeq fun _ => (#[] : Array Value))).push (seqObj "tuple" its.toArray 0)).objs.size = s.heap.objs.size + 3 := by rw [size_push', Heap.size_update, hszL]
    have hkk : (((g1.update (s.heap.objs.size + 1) (Obj.mapSeq fun _ => (#[] : Array Value))).push (seqObj "tuple" its.toArray 0)).push (seqObj "list" #[] 0)).get? (s.heap.objs.size + 3) = some (seqObj "list" #[] 0) := by
      rw [← hks]; exact Heap.get?_push_size _ rfl
    rw [hks]
    show wpAny _ _ _ _ _ { s with heap := ((g1.update (s.heap.objs.size + 1) (Obj.mapSeq fun _ => (#[] : Array Value))).push (seqObj "tuple" its.toArray 0)).push (seqObj "list" #[] 0) }
    generalize ((g1.update (s.heap.objs.size + 1) (Obj.mapSeq fun _ => (#[] : Array Value))).push (seqObj "tuple" its.toArray 0)).push (seqObj "list" #[] 0) = g2 at keep2 hka hkk ⊢
    clear hks ho1 hoL hszL keep
    have I2 : Inv X pins σ H { s with heap := g2 } := I.kept (t' := s.toks) keep2
    have flt : f < s.heap.objs.size := Heap.lt_size hfo
    have fA : FpOk X pins H (s.heap.objs.size + 1) := I.fpOk (by omega) (I.hok.fresh (by omega))
    have fK : FpOk X pins H (s.heap.objs.size + 3) := I.fpOk (by omega) (I.hok.fresh (by omega))
    have nka : s.heap.objs.size + 3 ≠ s.heap.objs.size + 1 := by omega
    have nfa : f ≠ s.heap.objs.size + 1 := Nat.ne_of_lt (Nat.lt_succ_of_lt flt)
    have nfk : f ≠ s.heap.objs.size + 3 := Nat.ne_of_lt (Nat.lt_of_lt_of_le flt (Nat.le_add_right _ 3))
    generalize s.heap.objs.size + 1 = a at *
    generalize s.heap.objs.size + 3 = kS at *
    obtain ⟨hnA, fA1, fA2, fA3, fA4, fA5⟩ := fA
    obtain ⟨hnK, fK1, fK2, fK3, fK4, fK5⟩ := fK
    -- the keys, one call each
    have In : Inv X (pins ++ [(f, o), (a, seqObj "list" #[] e1), (kS, seqObj "list" #[] 0)]) σ H { s with heap := g2 } := I2.pins_of fun p hp => (List.mem_append.mp hp).elim (fun z => I2.pin p (List.mem_append_right _ z)) fun z => by
      rcases List.mem_cons.mp z with rfl | z
      · exact ⟨keep2 _ _ hfo, hfn, hfL, hfs, hod⟩
      rcases List.mem_cons.mp z with rfl | z
      · exact ⟨hka, hnA, fA1, fA2, fun v e => nomatch e⟩
      · obtain rfl := List.mem_singleton.mp z
        exact ⟨hkk, hnK, fK1, fK2, fun v e => nomatch e⟩
    unfold ksk_rest
    refine wpAny_bind (wpAny_rule ?_)
    rw [List.forIn_toArray]
    refine wpAny_bind (ksk_fold (fun i s' => ∃ (H' : Hp) (kA : Array Value) (e : Nat), Inv X (pins ++ [(f, o), (a, seqObj "list" #[] e1), (kS, seqObj "list" kA e)]) σ H' s' ∧ Same H H' ∧ IntsAre kA.toList (kz.take i)) its 0 _ ⟨H, #[], 0, In, Same.refl _, by simpa using IntsAre.nil⟩ ?step ?done)
    case step =>
      rintro j x s' hx ⟨H', kA, e, J, sm, hk⟩
      simp only [Nat.zero_add] at hk ⊢
      have hj : j < ns.length := by
        have := (List.getElem?_eq_some_iff.mp hx).1
        omega
      obtain ⟨k, hkj⟩ : ∃ k, kz[j]? = some k := ⟨_, List.getElem?_eq_getElem (by omega)⟩
      obtain ⟨z, t, rfl⟩ := strs_mem hS x (List.mem_of_getElem? hx)
      have hz : ns[j]? = some z := by
        rw [← sv_map hS, List.getElem?_map, hx]
        rfl
      have hkA : kA.size ≤ 60 := by
        have h1 := hk.length
        rw [Array.length_toList, List.length_take] at h1
        omega
      refine wpAny_bind (wpAny_attempt (wpAny_mono (turn j z k t _ H' s' hz hkj J sm (J.pin (f, o) (List.mem_append_right _ (List.mem_append_right _ (.head _)))).1) (fun v s'' he => ?_) fun _ _ hF => hF.elim))
      obtain ⟨y, H'', J2, ry, rfl, sm2⟩ := he
      obtain ⟨t2, rfl⟩ := ry
      try dsimp only
      have pK := J2.pin (kS, seqObj "list" kA e) (List.mem_append_right _ (List.mem_append_right _ (.tail _ (.tail _ (.head _)))))
      have pA := J2.pin (a, seqObj "list" #[] e1) (List.mem_append_right _ (List.mem_append_right _ (.tail _ (.head _))))
      have pF := J2.pin (f, o) (List.mem_append_right _ (List.mem_append_right _ (.head _)))
      refine wpAny_bind (listUpdate_at pK.1 rfl ?_ (by rw [sizeLine_eq]; omega) (Nat.le_trans (Nat.le_of_eq (Array.size_push ..)) (by rw [sizeLine_eq]; omega)))
      have J3 : Inv X (pins ++ [(f, o), (a, seqObj "list" #[] e1)]) σ H'' s'' := J2.pins_of fun p hp => J2.pin p (List.mem_append_right _ ((List.mem_append.mp hp).elim (List.mem_append_left _) fun z => List.mem_append_right _ (by
        rcases List.mem_cons.mp z with rfl | z
        · exact .head _
        · obtain rfl := List.mem_singleton.mp z
          exact .tail _ (.head _))))
      have J4 : Inv X (pins ++ [(f, o), (a, seqObj "list" #[] e1)]) σ H'' { s'' with heap := s''.heap.update kS (Obj.mapSeq (·.push (.int k t2))) } := J3.turned (t' := s''.toks) (it := kS) (fun b u hb z => (Heap.get?_update_ne _ _ _ _ hb).trans z) pK.2.1 fK1 fK3 fK4 fun p hp => by
        rcases List.mem_append.mp hp with hp | hp
        · exact fK5 p (List.mem_append_left _ hp)
        rcases List.mem_append.mp hp with hp | hp
        · exact fK5 p (List.mem_append_right _ hp)
        rcases List.mem_cons.mp hp with rfl | hp
        · exact nfk
        · obtain rfl := List.mem_singleton.mp hp
          exact nka.symm
      obtain ⟨c2, hc2⟩ : ∃ c2, (s''.heap.update kS (Obj.mapSeq (·.push (.int k t2)))).get? kS = some (seqObj "list" (kA.push (.int k t2)) c2) := ⟨_, get?_update_seq pK.1 (·.push (.int k t2))⟩
      have J5 : Inv X (pins ++ [(f, o), (a, seqObj "list" #[] e1), (kS, seqObj "list" (kA.push (.int k t2)) c2)]) σ H'' { s'' with heap := s''.heap.update kS (Obj.mapSeq (·.push (.int k t2))) } := J4.pins_of fun p hp => by
        rcases List.mem_append.mp hp with hp | hp
        · exact J4.pin p (List.mem_append_right _ (List.mem_append_left _ hp))
        rcases List.mem_cons.mp hp with rfl | hp
        · exact J4.pin _ (List.mem_append_right _ (List.mem_append_right _ (.head _)))
        rcases List.mem_cons.mp hp with rfl | hp
        · exact J4.pin _ (List.mem_append_right _ (List.mem_append_right _ (.tail _ (.head _))))
        · obtain rfl := List.mem_singleton.mp hp
          exact ⟨hc2, pK.2.1, fK1, fK2, fun v e => nomatch e⟩
      have ek : kz.take (j + 1) = kz.take j ++ [k] := by rw [List.take_add_one, hkj]; rfl
      have ea : (kA.push (Value.int k t2)).toList = kA.toList ++ [Value.int k t2] := by simp
      exact wpAny_pure ⟨rfl, H'', _, c2, J5, sm.trans sm2, by rw [ea, ek]; exact ksk_snoc hk⟩
    case done =>
      rintro s' ⟨H', kA, e, J, sm, hk⟩
      have hk' : IntsAre kA.toList kz := by
        have e3 : kz.take (0 + its.length) = kz := List.take_of_length_le (by omega)
        rw [e3] at hk
        exact hk
      have pK := J.pin (kS, seqObj "list" kA e) (List.mem_append_right _ (List.mem_append_right _ (.tail _ (.tail _ (.head _)))))
      have pA := J.pin (a, seqObj "list" #[] e1) (List.mem_append_right _ (List.mem_append_right _ (.tail _ (.head _))))
      try dsimp only
      refine wpAny_bind (listItems_at pK.1 rfl ?_)
      refine srt_end pK.1 pA.1 nka hk' (by omega) (by omega) fun out ko => ⟨_, rfl, ?_⟩
      obtain ⟨ps, p1, p2, p3⟩ := out_strs hS ko
      have J1 : Inv X pins σ H' s' := J.unpinned
      have J2 : Inv X pins σ H' { s' with heap := s'.heap.update kS (Obj.mapSeq fun _ => (#[] : Array Value)) } := J1.turned (t' := s'.toks) (it := kS) (fun b u hb z => (Heap.get?_update_ne _ _ _ _ hb).trans z) pK.2.1 fK1 fK3 fK4 fK5
      have pA2 : (s'.heap.update kS (Obj.mapSeq fun _ => (#[] : Array Value))).get? a = some (seqObj "list" #[] e1) := (Heap.get?_update_ne _ _ _ _ nka.symm).trans pA.1
      obtain ⟨c3, hc3⟩ : ∃ c3, ((s'.heap.update kS (Obj.mapSeq fun _ => (#[] : Array Value))).update a (Obj.mapSeq fun _ => out)).get? a = some (seqObj "list" out c3) := ⟨_, get?_update_seq pA2 fun _ => out⟩
      have J3 : Inv X pins σ (upd H' a (.lst ((ps.map Prod.snd).map V.str))) { s' with heap := srtH s'.heap a kS out } := J2.take (t' := s'.toks) (it := a) (fun b u hb z => (Heap.get?_update_ne _ _ _ _ hb).trans z) ⟨pA.2.1, fA1, fA2, fA3, fA4, fA5⟩
        ⟨by rw [List.length_map, List.length_map, p1.length_eq, List.length_zip, sizeLine_eq]; omega, out.toList, c3, p3, by rw [Array.toArray_toList]; exact hc3⟩
      exact wpAny_pure ⟨_, rfl, .ref a, _, J3, rfl, q ps a H' sm pA.2.1 p1 p2⟩
/-- sorted(e, key=lambda a: body): the lambda's own slots are its parameter, then the names that it captured, at js -/
def tSortL (T : List (Addr × Str)) (N : List Str) (js : List Nat) (t : TA) (tb : TE) : TE := fun σ H Q => t σ H fun vs H1 => ∃ (l : Addr) (ns : List Str) (kz : List Int), vs = [V.ref l] ∧ H1 l = some (.lst (ns.map V.str)) ∧ kz.length = ns.length ∧ ns.length ≤ 60 ∧ Tabs T H1 ∧
  ∀ H2, ExtN H1 H2 → Tabs T H2 → (∀ (i : Nat) (x : Str) (n : Int), ns[i]? = some x → kz[i]? = some n → ∀ H', Same H2 H' → tb (startF N [.str x] (js.map (slotAt σ))) H' (fun v H'' => v = .int n ∧ Same H' H'')) ∧
    ∀ (ps : List (Int × Str)) (p : Addr) (H' : Hp), Same H2 H' → H' p = none → ps.Perm (kz.zip ns) → ps.Pairwise (fun x y => x.1 ≤ y.1) → Q (.ref p) (upd H' p (.lst ((ps.map Prod.snd).map V.str)))
abbrev lamF (X : Cx) (params : Arguments) (scope : Scope) (c' : Addr) : NF := ⟨"<lambda>", X.env.qual ++ "<lambda>", params, [], scope, cloFrom X.env.cells scope.names [], c'⟩
theorem pe_sortL {X : Cx} {T : List (Addr × Str)} {c P : Addr} {params : Arguments} {body : Expr} {scope : Scope} {lpos kpos p pos : Pos} {e : Expr} {a : Str} {N fr : List Str} {js : List Nat} {k j : Nat} {t : TA} {tb : TE} (TB : TabB X.base X.mg c P) (hcode : X.env.code = .ref c) (hmT : (P, X.env.qual ++ "<lambda>") ∈ T)
    (hu : ∀ p ∈ T, p.1 = P → p.2 = X.env.qual ++ "<lambda>") (hr : Room j X.A) (hkj : k + 3 ≤ j) (hg : Gl X "sorted") (hm : X.mg "sorted" = none) (hv : bootBuiltins "sorted" = some (.builtin "sorted")) (ha : PA X [e] t)
    (S : NScope N [a] fr scope) (hdef : defaultsOf params X.env = ([], [])) (hfree : ∀ y ∈ scope.names, y.2 = .free → X.env.scope.names.lookup y.1 = some .cell ∨ X.env.scope.names.lookup y.1 = some .free) (hfr : ∀ y ∈ fr, (y, NameKind.free) ∈ scope.names) (hjs : js.map (fun j => X.N[j]?) = fr.map some)
    (hbind : ∀ (q : Str) (cl : List (Str × Addr)) (pm cv ctv : Value) (us : List Value), us.length = 1 → bindArgs (PySem.W.kla_fn "<lambda>" q params body scope cl pm cv ctv) ⟨us, []⟩ = pure ([a].zip us))
    (hbody : ∀ (A : Around) (outer : List Env) (s : Shared) (H : Hp) (f c' : Addr), Room k (A.deeper (envF (lamF X params scope c') f s.heap.objs.size)) → PE (ncx C8.CX0 X.prog X.w X.K X.mg X.base N (lamF X params scope c') f A outer s H C8.E0) body tb)
    (he : backTo pos (starEach [e] X.env) = (false, eval e X.env) :: backTo pos (starEach [] X.env) := by rfl) (hpl : (backTo pos (starEach [e] X.env)).any (·.1) = false := by rfl) :
    PE X (.Call (.Name "sorted" p) [e] [⟨some "key", .Lambda params body scope lpos, kpos⟩] pos) (tSortL T N js t tb) := by
  refine ⟨fun pins s σ H Q I h => ?_⟩
  refine wpAny_Call_Name_kw (ld_blt I hg hm hv ?_ (by decide) (by decide))
  refine PyProof.Rows.callWith_kw (thn (ha.run pos pins s σ H _ I h) fun us s1 ⟨vs, H1, I1, r1, q1⟩ => ?_) he hpl
  obtain ⟨l, ns, kz, rfl, hl, hlen, hZ, hT, q⟩ := q1
  rw [Vals.ref1 r1]
  have hfr2 : ∀ y ∈ scope.names, y.2 = .free → ∃ c, X.env.cells.lookup y.1 = some c := fun y hy e => (hfree y hy e).elim (fun z => I1.ok.has _ (.inl z)) fun z => I1.ok.has _ (.inr z)
  show wpAny _ _ (evalAll [(do let v ← eval (.Lambda params body scope lpos) X.env; standAt pos; pure v)]) _ _ s1
  refine wpAny_evalAll_cons (wpAny_bind (lam_make2 I1 TB hcode hmT hu hT hdef hfr2 fun f c' pm ctv H2 s2 I2 e2 T2 hfo hfn hff hc' => wpAny_bind (wpAny_standAt (wpAny_pure (wpAny_evalAll_nil ?_)))))
  obtain ⟨qt, qe⟩ := q H2 e2 T2
  show wpAny _ _ (call (.builtin "sorted") [.ref l] [(Str.ofString "key", .ref f)]) _ _ s2
  have hfL : f ≠ X.env.locals := fun z => by
    obtain ⟨m, ⟨o, es, ep, ho, hd, _⟩, _⟩ := I2.loc
    rw [← z, hfo] at ho
    cases ho
    cases hd
  refine sorted_key (ns := ns) (kz := kz) I2 (SqL.of (e2 _ _ hl (fun _ z => nomatch z))) hlen hZ hfo hfn hff (fun v z => nomatch z) hfL (fun i x n t pins' H' s' hx hn J sm hof => ?_) qe
  have rc : codeAny (model X.prog X.w) X.A.in1.in1 (.call (.ref f) ⟨[.str x t], []⟩) (CR C8.CX0 X.stack X.prog X.w H' s' (fun v H'' => v = .int n ∧ Same H' H'') C8.E0) s' :=
    lam_run (F := lamF X params scope c') (ps := [a]) (vs := [.str x]) (k := k) S (fun pm ctv us hl => hbind _ _ _ _ _ us hl) (hr.mono hkj).in1.in1 J.env0.in1.in1 ⟨pm, ctv, hof⟩ (sm _ _ hc')
      (cells_of J (Caps.made J.ok hfree hfr hjs)) (.cons ⟨t, rfl⟩ .nil) rfl (fun hr2 => hbody _ _ _ _ _ _ hr2) (qt i x n hx hn H' sm)
  refine wpAny_call (codeAny_mono rc fun r s3 hq => ?_)
  cases r with
  | error e => exact (show False from hq).elim
  | ok fl =>
    cases fl with
    | ret u => exact J.after hq
    | next => exact False.elim hq
    | brk => exact False.elim hq
    | cont => exact False.elim hq
/-- where a def stands that makes code objects: its own code object is at c -/
structure DefAtC (K : PySem.W.Frag) (mg : Str → Option Value) (x : Str) (st : Stmt) (ps : List Str) (c : Addr) : Prop where
  ex : ∃ (f : Addr) (oc : Value) (od : Option Addr) (kV doc pm : Value) (an : Option Addr) (ct : Value) (osl : Array (Option Value)), mg x = some (.ref f) ∧ PySem.W.keepIn K (.ref f) = true ∧
    K.lookup f = some ⟨oc, od, .func (PySem.W.fnOf x x (defArgs st) (defBody st) (defScope st) .none kV doc pm an (.ref c) ct), osl⟩ ∧ PySem.W.codeIn K (.ref c) x = true ∧
    Binds K (PySem.W.fnOf x x (defArgs st) (defBody st) (defScope st) .none kV doc pm an (.ref c) ct) ps []
theorem cal_ofC {P : Program} {w : World} {K : PySem.W.Frag} {mg : Str → Option Value} {base : Heap} {x : Str} {st : Stmt} {c : Addr} {N ps : List Str} {k : Nat} {sp : Sp} (D : DefAtC K mg x st ps c) (S : FnScope N ps (defScope st)) (len : ∀ vs H Q E, sp vs H Q E → vs.length = ps.length)
    (hbody : ∀ (f : Addr) (A : Around) (outer : List Env) (s : Shared) (H : Hp) (vs : List V) (Q : VK) (E : XK), Room k (A.deeper (envOfC x (defScope st) s.heap.objs.size f (.ref c))) → sp vs H Q E →
      ∃ t, PSs (cxOf L2.CX0 P w K mg base N x (defScope st) f (.ref c) A outer s H E).nox (defBody st) t ∧ t { nx := fun _ H' => Q .non H', rt := Q } (start N vs) H) : C8.Cal P w K mg base (k + 1) x sp [] := by
  obtain ⟨f, oc, od, kV, doc, pm, an, ct, osl, hg, kp, lk, hcd, b⟩ := D.ex
  refine ⟨f, _, ps, [], fn_of lk hcd S len fun A outer s H vs Q E hr hsp => ?_, hg, kp, b, .nil⟩
  obtain ⟨t, h, q⟩ := hbody f A outer s H vs Q E hr hsp
  exact ⟨t, h.nox, q⟩
end
section
open PySem PySem.Spec PyProof.Rows L2
def topS (i : Nat) : Stmt := PySem.Challenge.pw_digstead_k65_visits_of_a_past.main.body.getD i (.Pass ⟨0, 0, 0, 0⟩)
/-! ### _law_pool -/
abbrev s_pool : Stmt := topS 4
abbrev N_pool : List Str := ["script", "salt", "great", "mixed", "i", "cell"]
theorem sc_pool : FnScope N_pool ["script", "salt"] (defScope s_pool) := ⟨rfl, rfl, rfl, by decide +kernel, rfl, by decide +kernel, by decide +kernel⟩
def spPool (K : PySem.W.Frag) : Sp := fun vs H Q _ => ∃ (a : Addr) (ns : List Int) (z : Int), vs = [.ref a, .int z] ∧ SqL K H a (ns.map V.int) ∧ ns.length ≤ 63 ∧ 0 ≤ z ∧ z < 1000000 ∧
  ∀ (H' : Hp) (p g : Addr), Same H H' → H p = none → H g = none → PoolAt H' p g → Q (.ref p) H'
section
variable {P : Program} {w : World} {K : PySem.W.Frag} {mg : Str → Option Value} {base : Heap}
theorem ok_pool {k : Nat} (D : DefAt K mg "_law_pool" s_pool ["script", "salt"]) (T : Txt mg) : C8.Cal P w K mg base (k + 1) "_law_pool" (spPool K) [] := by
  obtain ⟨f, fd, F, hg, b⟩ := D.ex
  refine cal_of F hg b sc_pool (fun vs H Q E h => ?_) (fun cdv A outer s H vs Q E hr h => ?_)
  · obtain ⟨a, ns, z, rfl, _⟩ := h
    rfl
  · obtain ⟨a, ns, z, rfl, hS, hlen, hz0, hz1, q⟩ := h
    have hu := hu_of hr
    refine ⟨_, (pss_cons (ps_set (i := 2) sc_pool.nd rfl (.inl rfl) (pe_lst pa_nil))
(pss_cons (ps_set (i := 3) sc_pool.nd rfl (.inl rfl) (pe_op op_add pe_int (pv 1)))
(pss_cons (ps_for PassesOwn.never rfl (pi_range1 rfl T.range (pa_cons (pe_callB (call_min2D rfl) (by rfl) T.min (by decide +kernel) (pa_cons (pe_callB (show CallR _ (.builtin "len") (rLenQ K) from call_lenD') (by rfl) T.len PySem.boot_len (pa_cons (pv 0) pa_nil)) (pa_cons pe_int pa_nil))) pa_nil)) (pg_name (i := 4) sc_pool.nd rfl (.inl rfl))
    (pss_cons (ps_set (i := 5) sc_pool.nd rfl (.inl rfl) (pe_callB call_absD (by rfl) T.abs (by decide +kernel) (pa_cons (pe_callTy call_intD (by rfl) T.int (by decide +kernel) (pa_cons (pe_ix (show IxR _ (rIxL K) from ix_list) (pv 0) (pv 4) (fun _ _ => rfl)) pa_nil)) pa_nil)))
    (pss_cons (ps_if (pt_cmpR op_ge (pv 5) (pe_op op_pow pe_int pe_int) (nomark _))
        (pss_one (ps_set (i := 2) sc_pool.nd rfl (.inl rfl) (pe_op op_cat (pe_lst (pa_cons (pv 5) pa_nil)) (pv 2))))
      pss_nil)
    (pss_one (ps_set (i := 3) sc_pool.nd rfl (.inl rfl) (pe_op op_mod (pe_callTy call_intD (by rfl) T.int (by decide +kernel) (pa_cons (pe_op op_add (pe_op op_add (pe_op op_add (pe_op op_add (pe_op op_mul (pv 3) pe_int) (pe_op op_mul (pe_op op_mod (pe_callTy call_intD (by rfl) T.int (by decide +kernel) (pa_cons (pv 5) pa_nil)) pe_int) pe_int)) (pe_op op_mod (pe_callTy call_intD (by rfl) T.int (by decide +kernel) (pa_cons (pe_op op_fdiv (pv 5) pe_int) pa_nil)) pe_int)) (pv 4)) pe_int) pa_nil)) pe_int))))))
(pss_one (ps_ret (pe_lst (pa_cons (pv 2) (pa_cons (pv 3) (pa_cons pe_int pa_nil))))))))), ?_⟩
    walk_at "go"
    refine ⟨Nat.zero_le _, fun g0 n0 => ?_⟩
    have s0 : Same H (upd H g0 (.lst [])) := same_upd n0
    walk_at "go"
    -- for i in range(min(len(script), 63))
    refine r_lenL (s0.seq hS) ?_
    walk_at "go"
    have el : (if (63 : Int) < ((ns.map V.int).length : Int) then (63 : Int) else ((ns.map V.int).length : Int)) = (ns.length : Int) := by
      rw [List.length_map, if_neg (by omega)]
    rw [el]
    refine ⟨_, rfl, by omega, by omega, ?_⟩
    rw [Int.toNat_natCast]
    refine for_range (lo := 0) (n := ns.length) (fun i σ H' => ∃ (g : Addr) (gs : List Int) (m : Int) (x4 x5 : Option V), σ = [some (.ref a), some (.int z), some (.ref g), some (.int m), x4, x5] ∧ Same H H' ∧ H g = none ∧ H' g = some (.lst (gs.map V.int)) ∧ gs.length ≤ i ∧ 0 ≤ m ∧ m < 2147483647)
      ⟨g0, [], _, none, none, rfl, s0, n0, upd_same, Nat.le_refl _, by omega, by omega⟩ (fun i σ H' hi hW => ?_) (fun σ H' hW => ?_)
    · obtain ⟨g, gs, m, x4, x5, rfl, sm, ng, eg, lg, m0, m1⟩ := hW
      have hA : SqL K H' a (ns.map V.int) := sm.seq hS
      walk_at "go"
      have ha : (ns.map V.int)[i]? = some (.int ns[i]) := by
        rw [List.getElem?_map, List.getElem?_eq_getElem hi]
        rfl
      refine r_ixL hA (at_of (by omega) ha) ?_
      walk_at "go"
      -- if cell >= 10 ** 18
      refine r_I ⟨by decide, by decide, by decide⟩ ?_
      walk_at "go"
      refine ite2 (fun _ => ?_) (fun _ => ?_)
      · walk_at "go"
        refine ⟨sz_le (by simp), fun c nc => ?_⟩
        walk_at "go"
        have ncg : g ≠ c := ne_of_none eg nc
        refine r_cat upd_same (by rw [upd_ne ncg]; exact eg) (by
          rw [List.length_map]
          show 1 + gs.length ≤ sizeLine
          exact sz_le (by omega)) fun o no => ?_
        walk_at "go"
        refine ⟨o, (if ns[i] < 0 then -ns[i] else ns[i]) :: gs, _, _, _, rfl, (sm.trans (same_upd nc)).trans (same_upd no), (sm.trans (same_upd nc)).free no, upd_same, ?_, by omega, by omega⟩
        rw [List.length_cons]
        omega
      · walk_at "go"
        exact ⟨g, gs, _, _, _, rfl, sm, ng, eg, by omega, by omega, by omega⟩
    · obtain ⟨g, gs, m, x4, x5, rfl, sm, ng, eg, lg, m0, m1⟩ := hW
      -- return [great, mixed, 0]
      walk_at "go"
      refine ⟨sz_le (by simp), fun p np => ?_⟩
      refine q _ p g (sm.trans (same_upd np)) (sm.free np) ng ⟨(ne_of_none eg np).symm, gs, m, 0, upd_same, ?_, by omega, m0, m1⟩
      rw [upd_ne (ne_of_none eg np)]
      exact eg
end
end
section
open PySem PySem.Spec PyProof.Rows L2
/-! ### _law_pick -/
abbrev s_pick : Stmt := topS 5
abbrev N_pick : List Str := ["pool", "many", "row", "got", "x", "y", "z"]
theorem sc_pick : FnScope N_pick ["pool", "many"] (defScope s_pick) := ⟨rfl, rfl, rfl, by decide +kernel, rfl, by decide +kernel, by decide +kernel⟩
def spPick : Sp := fun vs H Q _ => ∃ (p g : Addr) (n : Int), vs = [.ref p, .int n] ∧ PoolAt H p g ∧ n < 1073741824 ∧
  ∀ (r : Int) (H' : Hp), PoolAt H' p g → But2 p g H H' → 0 ≤ r → (r < n ∨ r = 0) → Q (.int r) H'
section
variable {P : Program} {w : World} {K : PySem.W.Frag} {mg : Str → Option Value} {base : Heap}
theorem ok_pick {k : Nat} (D : DefAt K mg "_law_pick" s_pick ["pool", "many"]) (T : Txt mg) : C8.Cal P w K mg base (k + 1) "_law_pick" spPick [] := by
  obtain ⟨f, fd, F, hg, b⟩ := D.ex
  refine cal_of F hg b sc_pick (fun vs H Q E h => ?_) (fun cdv A outer s H vs Q E hr h => ?_)
  · obtain ⟨p, g, n, rfl, _⟩ := h
    rfl
  · obtain ⟨p, g, n, rfl, hP, hn, q⟩ := h
    have hu := hu_of hr
    refine ⟨_, (pss_cons (ps_if (pt_cmpR op_lt (pv 1) pe_int (nomark _))
    (pss_one (ps_ret pe_int))
  pss_nil)
(pss_cons (ps_set (i := 2) sc_pick.nd rfl (.inl rfl) (pe_ix (show IxR _ (rIxL K) from ix_list) (pv 0) pe_int (fun _ _ => rfl)))
(pss_cons (ps_if (pt_cmpR op_gt (pe_callB (show CallR _ (.builtin "len") (rLenQ K) from call_lenD') (by rfl) T.len PySem.boot_len (pa_cons (pv 2) pa_nil)) pe_int (nomark _))
    (pss_cons (ps_set (i := 3) sc_pick.nd rfl (.inl rfl) (pe_op op_mod (pe_callTy call_intD (by rfl) T.int (by decide +kernel) (pa_cons (pe_ix (show IxR _ (rIxL K) from ix_list) (pv 2) (pe_un un_neg pe_int) (fun _ _ => rfl)) pa_nil)) (pv 1)))
    (pss_cons (ps_asg (pe_op op_fdiv (pe_ix (show IxR _ (rIxL K) from ix_list) (pv 2) (pe_un un_neg pe_int) (fun _ _ => rfl)) (pv 1)) (pg_sub (pv 2) (pe_un un_neg pe_int) set_list))
    (pss_cons (ps_if (pt_cmpR op_eq (pe_ix (show IxR _ (rIxL K) from ix_list) (pv 2) (pe_un un_neg pe_int) (fun _ _ => rfl)) pe_int (nomark _))
        (pss_one (ps_expr (pe_bm0 PySem.F.plainAttrs_list PySem.F.slot_list_pop PySem.F.type_list_pop mt_pop (pv 2))))
      pss_nil)
    (pss_one (ps_ret (pv 3))))))
  pss_nil)
(pss_cons (ps_asg (pe_op op_add (pe_ix (show IxR _ (rIxL K) from ix_list) (pv 0) pe_int (fun _ _ => rfl)) pe_int) (pg_sub (pv 0) pe_int set_list))
(pss_cons (ps_set (i := 4) sc_pick.nd rfl (.inl rfl) (pe_op op_mod (pe_callTy call_intD (by rfl) T.int (by decide +kernel) (pa_cons (pe_op op_add (pe_op op_add (pe_op op_mul (pe_ix (show IxR _ (rIxL K) from ix_list) (pv 0) pe_int (fun _ _ => rfl)) pe_int) (pe_op op_mul pe_int (pe_ix (show IxR _ (rIxL K) from ix_list) (pv 0) pe_int (fun _ _ => rfl)))) pe_int) pa_nil)) pe_int))
(pss_cons (ps_asg (pv 4) (pg_sub (pv 0) pe_int set_list))
(pss_cons (ps_set (i := 5) sc_pick.nd rfl (.inl rfl) (pe_op op_mod (pe_callTy call_intD (by rfl) T.int (by decide +kernel) (pa_cons (pe_op op_add (pe_op op_add (pe_op op_mul (pv 4) (pv 4)) (pe_op op_mul pe_int (pe_ix (show IxR _ (rIxL K) from ix_list) (pv 0) pe_int (fun _ _ => rfl)))) pe_int) pa_nil)) pe_int))
(pss_cons (ps_set (i := 6) sc_pick.nd rfl (.inl rfl) (pe_op op_mod (pe_callTy call_intD (by rfl) T.int (by decide +kernel) (pa_cons (pe_op op_add (pe_op op_mul (pv 5) (pv 5)) (pv 4)) pa_nil)) pe_int))
(pss_one (ps_ret (pe_op op_mod (pe_callTy call_intD (by rfl) T.int (by decide +kernel) (pa_cons (pe_op op_fdiv (pv 6) pe_int) pa_nil)) (pv 1)))))))))))), ?_⟩
    obtain ⟨npg, ns, m, c, ep, eg, ln, m0, m1⟩ := id hP
    walk_at "go"
    refine ite2 (fun h2 => ?_) (fun h2 => ?_)
    · walk_at "go"
      exact q 0 H hP But2.refl (by omega) (.inr rfl)
    · have h2 : ¬ n < 2 := fun z => h2 (decide_eq_true z)
      walk_at "go"
      refine r_ixL (SqL.of ep) (at_of (j := 0) rfl rfl) ?_
      walk_at "go"
      refine r_lenL (SqL.of eg) ?_
      walk_at "go"
      refine ite2 (fun h3 => ?_) (fun h3 => ?_)
      · -- a great number is left
        have h3 : 0 < ns.length := by
          have z := of_decide_eq_true h3
          rw [List.length_map] at z
          omega
        obtain ⟨ms, z, rfl⟩ : ∃ (ms : List Int) (z : Int), ns = ms ++ [z] := ⟨ns.dropLast, ns.getLast (List.ne_nil_of_length_pos h3), (List.dropLast_concat_getLast _).symm⟩
        have em : ((ms ++ [z]).map V.int) = ms.map V.int ++ [V.int z] := by rw [List.map_append]; rfl
        rw [em] at eg
        walk_at "go"
        refine r_ixL (SqL.of eg) (atI_last _ _) ?_
        walk_at "go"
        refine r_ixL (SqL.of eg) (atI_last _ _) ?_
        walk_at "go"
        refine r_setLast eg ?_
        walk_at "go"
        refine r_ixL (SqL.of upd_same) (atI_last _ _) ?_
        walk_at "go"
        have ln' : ms.length + 1 ≤ 63 := by
          rw [List.length_append] at ln
          exact ln
        have hr0 : 0 ≤ z % n := Int.emod_nonneg _ (by omega)
        have hr1 : z % n < n := Int.emod_lt_of_pos _ (by omega)
        have ep' : ∀ o, upd H g o p = some (.lst [.ref g, .int m, .int c]) := fun o => by rw [upd_ne npg]; exact ep
        refine ite2 (fun h4 => ?_) (fun h4 => ?_)
        · walk_at "go"
          refine r_pop upd_same ?_
          walk_at "go"
          refine q _ _ ⟨npg, ms, m, c, by rw [upd_ne npg]; exact ep' _, upd_same, by omega, m0, m1⟩ (fun b o e h1 h2 => ?_) hr0 (.inl hr1)
          rw [upd_ne h2, upd_ne h2]
          exact e
        · walk_at "go"
          refine q _ _ ⟨npg, ms ++ [z / n], m, c, ep' _, by rw [upd_same, List.map_append]; rfl, by rw [List.length_append]; exact ln', m0, m1⟩ (fun b o e h1 h2 => ?_) hr0 (.inl hr1)
          rw [upd_ne h2]
          exact e
      · -- none is left: a reckoned number
        walk_at "go"
        refine r_ixL (SqL.of ep) (at_of (j := 2) rfl rfl) ?_
        walk_at "go"
        refine r_setL ep (j := 2) rfl ?_
        walk_at "go"
        refine r_ixL (SqL.of upd_same) (at_of (j := 1) rfl rfl) ?_
        walk_at "go"
        refine r_ixL (SqL.of upd_same) (at_of (j := 2) rfl rfl) ?_
        walk_at "go"
        refine r_setL upd_same (j := 1) rfl ?_
        walk_at "go"
        refine r_ixL (SqL.of upd_same) (at_of (j := 2) rfl rfl) ?_
        walk_at "go"
        have hx0 : 0 ≤ (m * 48271 + 11 * (c + 1) + 5) % 2147483647 := Int.emod_nonneg _ (by omega)
        have hx1 : (m * 48271 + 11 * (c + 1) + 5) % 2147483647 < 2147483647 := Int.emod_lt_of_pos _ (by omega)
        refine q _ _ ⟨npg, ns, _, _, upd_same, by rw [upd_ne npg.symm, upd_ne npg.symm]; exact eg, ln, hx0, hx1⟩ (fun b o e h1 h2 => ?_) (Int.emod_nonneg _ (by omega)) (.inl (Int.emod_lt_of_pos _ (by omega)))
        rw [upd_ne h1, upd_ne h1]
        exact e
/-! ### _law_one -/
abbrev s_one : Stmt := topS 6
abbrev N_one : List Str := ["pool", "row"]
theorem sc_one : FnScope N_one ["pool", "row"] (defScope s_one) := ⟨rfl, rfl, rfl, by decide +kernel, rfl, by decide +kernel, by decide +kernel⟩
def spOne (K : PySem.W.Frag) : Sp := fun vs H Q _ => ∃ (p g a : Addr) (xs : List V), vs = [.ref p, .ref a] ∧ PoolAt H p g ∧ SqL K H a xs ∧ xs ≠ [] ∧ xs.length ≤ 90000 ∧ a ≠ p ∧ a ≠ g ∧
  ∀ (v : V) (H' : Hp), v ∈ xs → PoolAt H' p g → But2 p g H H' → Q v H'
theorem ok_one {k : Nat} (D : DefAt K mg "_law_one" s_one ["pool", "row"]) (T : Txt mg) (c_pick : C8.Cal P w K mg base k "_law_pick" spPick []) : C8.Cal P w K mg base (k + 1) "_law_one" (spOne K) [] := by
  obtain ⟨f, fd, F, hg, b⟩ := D.ex
  refine cal_of F hg b sc_one (fun vs H Q E h => ?_) (fun cdv A outer s H vs Q E hr h => ?_)
  · obtain ⟨p, g, a, xs, rfl, _⟩ := h
    rfl
  · obtain ⟨p, g, a, xs, rfl, hP, hS, hne, hl, nap, nag, q⟩ := h
    refine ⟨_, (pss_one (ps_ret (pe_ix ix_list (pv 1) (C8.pe_c c_pick hr (Nat.le_refl _) (by rfl) (pa_cons (pv 0) (pa_cons (pe_callB call_lenD' (by rfl) T.len PySem.boot_len (pa_cons (pv 1) pa_nil)) pa_nil))) (fun _ _ => rfl)))), ?_⟩
    have hp : 0 < xs.length := List.length_pos_iff.mpr hne
    walk_at "go"
    refine r_lenL hS ?_
    walk_at "go"
    refine ⟨p, g, _, rfl, hP, by omega, fun r H' hP' e h0 h1 => ?_⟩
    have hi : r.toNat < xs.length := by omega
    refine r_ixL (e.seq hS nap nag) (at_of (j := r.toNat) (by omega) (List.getElem?_eq_getElem hi)) ?_
    exact q _ H' (List.getElem_mem hi) hP' e
/-! ### _law_names -/
theorem len_ofInt (i : Int) (h : i.natAbs.log2 < 1920) : (Str.ofString (toString i)).length ≤ 1921 := PyProof.Rows.int_text_len_1921 h
abbrev s_names : Stmt := topS 7
abbrev N_names : List Str := ["pool", "many", "taken", "signs", "told", "i", "text", "j"]
theorem sc_names : FnScope N_names ["pool", "many", "taken"] (defScope s_names) := ⟨rfl, rfl, rfl, by decide +kernel, rfl, by decide +kernel, by decide +kernel⟩
def spNames (K : PySem.W.Frag) : Sp := fun vs H Q _ => ∃ (p g t : Addr) (n : Int) (ts : List Str), vs = [.ref p, .int n, .ref t] ∧ PoolAt H p g ∧ 0 ≤ n ∧ n ≤ 100 ∧ SqL K H t (ts.map V.str) ∧ t ≠ p ∧ t ≠ g ∧
  ∀ (o : Addr) (ss : List Str) (H' : Hp), PoolAt H' p g → But2 p g H H' → H o = none → H' o = some (.lst (ss.map V.str)) → (ss.length : Int) = n → (∀ x ∈ ss, x.length ≤ 2000) → Q (.ref o) H'
theorem ok_names {k : Nat} (D : DefAt K mg "_law_names" s_names ["pool", "many", "taken"]) (T : Txt mg) (c_pick : C8.Cal P w K mg base (k + 1) "_law_pick" spPick []) (c_one : C8.Cal P w K mg base (k + 2) "_law_one" (spOne K) []) : C8.Cal P w K mg base (k + 3) "_law_names" (spNames K) [] := by
  obtain ⟨f, fd, F, hg, b⟩ := D.ex
  refine cal_of F hg b sc_names (fun vs H Q E h => ?_) (fun cdv A outer s H vs Q E hr h => ?_)
  · obtain ⟨p, g, t, n, ts, rfl, _⟩ := h
    rfl
  · obtain ⟨p, g, t, n, ts, rfl, hP, hn0, hn1, hT, ntp, ntg, q⟩ := h
    have hk1 : k + 1 ≤ k + 2 := Nat.le_succ _
    have hk2 : k + 2 ≤ k + 2 := Nat.le_refl _
    refine ⟨_, (pss_cons (ps_set (i := 3) sc_names.nd rfl (.inl rfl) pe_str)
(pss_cons (ps_set (i := 4) sc_names.nd rfl (.inl rfl) (pe_lst pa_nil))
(pss_cons (ps_for PassesOwn.never rfl (pi_range1 rfl T.range (pa_cons (pv 1) pa_nil)) (pg_name (i := 5) sc_names.nd rfl (.inl rfl))
    (pss_cons (ps_set (i := 6) sc_names.nd rfl (.inl rfl) (pe_ix ix_str (pv 3) (C8.pe_c c_pick hr (by omega) (by rfl) (pa_cons (pv 0) (pa_cons pe_int pa_nil))) (fun _ _ => rfl)))
    (pss_cons (ps_for PassesOwn.never rfl (pi_range1 rfl T.range (pa_cons (C8.pe_c c_one hr (by omega) (by rfl) (pa_cons (pv 0) (pa_cons (pe_lst (pa_cons pe_int (pa_cons pe_int (pa_cons pe_int (pa_cons pe_int (pa_cons pe_int (pa_cons pe_int (pa_cons pe_int pa_nil)))))))) pa_nil))) pa_nil)) (pg_name (i := 7) sc_names.nd rfl (.inl rfl))
        (pss_one (ps_set (i := 6) sc_names.nd rfl (.inl rfl) (pe_op op_addS (pv 6) (pe_ix ix_str (pv 3) (C8.pe_c c_pick hr (by omega) (by rfl) (pa_cons (pv 0) (pa_cons pe_int pa_nil))) (fun _ _ => rfl))))))
    (pss_cons (ps_for PassesOwn.never rfl (pi_range1 rfl T.range (pa_cons pe_int pa_nil)) (pg_name (i := 7) sc_names.nd rfl (.inl rfl))
        (pss_cons (ps_if (PW.pt (pw_and (pt_cmpR (show OpR _ (compareOp .NotIn) (rIn K true) from op_notIn_seq) (pv 6) (pv 2) (by with_unfolding_all rfl)) (pw_and1 (pt_cmpR (show OpR _ (compareOp .NotIn) (rIn K true) from op_notIn_seq) (pv 6) (pv 4) (by with_unfolding_all rfl)))))
            (pss_one ps_break)
          pss_nil)
        (pss_one (ps_set (i := 6) sc_names.nd rfl (.inl rfl) (pe_op op_addS (pe_slice sl_str (pv 6) po_none (po_some pe_int)) (pe_callTy call_strD (by rfl) T.str (by decide +kernel) (pa_cons (pe_op op_add (pe_op op_add pe_int (pe_op op_mul pe_int (pv 5))) (pv 7)) pa_nil)))))))
    (pss_one (ps_expr (pe_bm PySem.F.plainAttrs_list PySem.F.slot_list_append PySem.F.type_list_append mt_append (pv 4) (pa_cons (pv 6) pa_nil))))))))
(pss_one (ps_ret (pv 4)))))), ?_⟩
    walk_at "go"
    refine ⟨Nat.zero_le _, fun o no => ?_⟩
    walk_at "go"
    refine ⟨_, rfl, by omega, by omega, ?_⟩
    have nop : o ≠ p := fun z => hP.np (by rw [← z]; exact no)
    have nog : o ≠ g := fun z => hP.ng (by rw [← z]; exact no)
    have sg : ("abcdefghijklmnopqrstuvwxyz0123456789" : Str).cps.toList.length = 36 := by decide +kernel
    have sl : ("abcdefghijklmnopqrstuvwxyz0123456789" : Str).length ≤ 90000 := by decide +kernel
    refine for_range (lo := 0) (n := n.toNat) (fun i σ H' => ∃ (ss : List Str) (x5 x6 x7 : Option V), σ = [some (.ref p), some (.int n), some (.ref t), some (.str "abcdefghijklmnopqrstuvwxyz0123456789"), some (.ref o), x5, x6, x7] ∧ PoolAt H' p g ∧ But2 p g H H' ∧ H' o = some (.lst (ss.map V.str)) ∧ ss.length = i ∧ (∀ x ∈ ss, x.length ≤ 2000))
      ⟨[], none, none, none, rfl, hP.keep (same_upd no), But2.of (same_upd no), upd_same, rfl, fun x hx => nomatch hx⟩ (fun i σ H1 hi hW => ?_) (fun σ H1 hW => ?_)
    · obtain ⟨ss, x5, x6, x7, rfl, hP1, e1, ho1, hl1, hs1⟩ := hW
      walk_at "go"
      -- text = signs[pick(26)]
      refine ⟨p, g, 26, rfl, hP1, by omega, fun r H2 hP2 e2 r0 r1 => ?_⟩
      have hi2 : r.toNat < ("abcdefghijklmnopqrstuvwxyz0123456789" : Str).cps.toList.length := by omega
      refine r_ixS (k := r) sl (atI_of (j := r.toNat) (by omega) (List.getElem?_eq_getElem hi2)) ?_
      have ho2 := e2 _ _ ho1 nop nog
      walk_at "go"
      refine ⟨sz_le (by simp), fun c nc => ?_⟩
      have noc : o ≠ c := ne_of_none ho2 nc
      have ncp : c ≠ p := fun z => hP2.np (by rw [← z]; exact nc)
      have ncg : c ≠ g := fun z => hP2.ng (by rw [← z]; exact nc)
      walk_at "go"
      refine ⟨p, g, c, _, rfl, hP2.keep (same_upd nc), SqL.of upd_same, by simp, by simp, ncp, ncg, fun v H3 hv hP3 e3 => ?_⟩
      obtain ⟨m, rfl, m0, m1⟩ : ∃ m : Int, v = .int m ∧ 0 ≤ m ∧ m ≤ 7 := by
        simp only [List.mem_cons, List.not_mem_nil, or_false] at hv
        rcases hv with rfl | rfl | rfl | rfl | rfl | rfl | rfl <;> exact ⟨_, rfl, by decide, by decide⟩
      have ho3 : H3 o = some (.lst (ss.map V.str)) := e3 _ _ (by rw [upd_ne noc]; exact ho2) nop nog
      have e03 : But2 p g H H3 := ((e1.trans e2).trans (But2.of (same_upd nc))).trans e3
      walk_at "go"
      refine ⟨_, rfl, by omega, by omega, ?_⟩
      refine for_range (lo := 0) (n := m.toNat) (fun j σ H' => ∃ (tx : Str) (x7 : Option V), σ = [some (.ref p), some (.int n), some (.ref t), some (.str "abcdefghijklmnopqrstuvwxyz0123456789"), some (.ref o), some (.int (0 + (i : Int))), some (.str tx), x7] ∧ PoolAt H' p g ∧ But2 p g H H' ∧ H' o = some (.lst (ss.map V.str)) ∧ tx.length = 1 + j)
        ⟨_, _, rfl, hP3, e03, ho3, rfl⟩ (fun j σ H4 hj hW => ?_) (fun σ H4 hW => ?_)
      · obtain ⟨tx, y7, rfl, hP4, e4, ho4, hl4⟩ := hW
        walk_at "go"
        refine ⟨p, g, 36, rfl, hP4, by omega, fun r5 H5 hP5 e5 r50 r51 => ?_⟩
        have hi5 : r5.toNat < ("abcdefghijklmnopqrstuvwxyz0123456789" : Str).cps.toList.length := by omega
        refine r_ixS (k := r5) sl (atI_of (j := r5.toNat) (by omega) (List.getElem?_eq_getElem hi5)) ?_
        refine r_addS (by rw [hl4, len_one]; omega) ?_
        walk_at "go"
        refine ⟨_, _, rfl, hP5, e4.trans e5, e5 _ _ ho4 nop nog, ?_⟩
        rw [str_cat, hl4, len_one]
        omega
      · obtain ⟨tx, y7, rfl, hP4, e4, ho4, hl4⟩ := hW
        walk_at "go"
        refine ⟨90, rfl, by decide, by decide, ?_⟩
        refine for_range (lo := 0) (n := (90 : Int).toNat) (fun j σ H' => H' = H4 ∧ ∃ (tx : Str) (x7 : Option V), σ = [some (.ref p), some (.int n), some (.ref t), some (.str "abcdefghijklmnopqrstuvwxyz0123456789"), some (.ref o), some (.int (0 + (i : Int))), some (.str tx), x7] ∧ tx.length ≤ 2000)
          ⟨rfl, _, _, rfl, by omega⟩ (fun j σ H5 hj hW => ?_) (fun σ H5 hW => ?_)
        · obtain ⟨rfl, tx5, z7, rfl, hl5⟩ := hW
          walk_at "go"
          refine r_inL (e4.seq hT ntp ntg) rfl (flat_strs _) ?_
          walk_at "go"
          refine r_ite (fun _ => ?_) (fun _ => ?_)
          · walk_at "go"
            refine r_inL (SqL.of ho4) rfl (flat_strs _) ?_
            walk_at "go"
            refine r_ite (fun _ => ?_) (fun _ => ?_)
            · -- break
              walk_at "go"
              refine ⟨tyL ho4, ?_⟩
              walk_at "go"
              refine r_append ho4 (by rw [List.length_map]; omega) ?_
              walk_at "go"
              refine ⟨ss ++ [tx5], _, _, _, rfl, ⟨hP4.ne, ?_⟩, fun b o' e h1 h2 => ?_, by rw [upd_same, List.map_append]; rfl, by rw [List.length_append, List.length_singleton, hl1], fun x hx => ?_⟩
              · obtain ⟨_, ns, mm, cc, z1, z2, z3⟩ := hP4
                exact ⟨ns, mm, cc, by rw [upd_ne nop.symm]; exact z1, by rw [upd_ne nog.symm]; exact z2, z3⟩
              · rw [upd_ne (ne_of_none e no)]
                exact e4 b o' e h1 h2
              · rcases List.mem_append.mp hx with hx | hx
                · exact hs1 x hx
                · rw [List.mem_singleton.mp hx]
                  exact hl5
            · walk_at "go"
              refine r_slS (by omega) ?_
              walk_at "go"
              refine r_strI (by have h1 : (100 + 90 * (0 + (i : Int)) + (0 + (j : Int))).natAbs < 2 ^ 1919 := Nat.lt_of_le_of_lt (show _ ≤ 100000 by omega) (by decide +kernel)
                                exact Nat.lt_succ_of_lt (Nat.log2_lt (by omega) |>.mpr h1)) ?_
              have ls := len_ofInt (100 + 90 * (0 + (i : Int)) + (0 + (j : Int))) (by have h1 : (100 + 90 * (0 + (i : Int)) + (0 + (j : Int))).natAbs < 2 ^ 1919 := Nat.lt_of_le_of_lt (show _ ≤ 100000 by omega) (by decide +kernel)
                                                                                      exact Nat.lt_succ_of_lt (Nat.log2_lt (by omega) |>.mpr h1))
              have lc : (cutS tx5 none (some 4)).length ≤ 4 := cutS_le tx5 4
              refine r_addS (by omega) ?_
              walk_at "go"
              refine ⟨rfl, _, _, rfl, ?_⟩
              rw [str_cat]
              omega
          · walk_at "go"
            refine r_ite (fun z => nomatch z) (fun _ => ?_)
            walk_at "go"
            refine r_slS (by omega) ?_
            walk_at "go"
            refine r_strI (by have h1 : (100 + 90 * (0 + (i : Int)) + (0 + (j : Int))).natAbs < 2 ^ 1919 := Nat.lt_of_le_of_lt (show _ ≤ 100000 by omega) (by decide +kernel)
                              exact Nat.lt_succ_of_lt (Nat.log2_lt (by omega) |>.mpr h1)) ?_
            have ls := len_ofInt (100 + 90 * (0 + (i : Int)) + (0 + (j : Int))) (by have h1 : (100 + 90 * (0 + (i : Int)) + (0 + (j : Int))).natAbs < 2 ^ 1919 := Nat.lt_of_le_of_lt (show _ ≤ 100000 by omega) (by decide +kernel)
                                                                                    exact Nat.lt_succ_of_lt (Nat.log2_lt (by omega) |>.mpr h1))
            have lc : (cutS tx5 none (some 4)).length ≤ 4 := cutS_le tx5 4
            refine r_addS (by omega) ?_
            walk_at "go"
            refine ⟨rfl, _, _, rfl, ?_⟩
            rw [str_cat]
            omega
        · obtain ⟨rfl, tx5, z7, rfl, hl5⟩ := hW
          walk_at "go"
          refine ⟨tyL ho4, ?_⟩
          walk_at "go"
          refine r_append ho4 (by rw [List.length_map]; omega) ?_
          walk_at "go"
          refine ⟨ss ++ [tx5], _, _, _, rfl, ⟨hP4.ne, ?_⟩, fun b o' e h1 h2 => ?_, by rw [upd_same, List.map_append]; rfl, by rw [List.length_append, List.length_singleton, hl1], fun x hx => ?_⟩
          · obtain ⟨_, ns, mm, cc, z1, z2, z3⟩ := hP4
            exact ⟨ns, mm, cc, by rw [upd_ne nop.symm]; exact z1, by rw [upd_ne nog.symm]; exact z2, z3⟩
          · rw [upd_ne (ne_of_none e no)]
            exact e4 b o' e h1 h2
          · rcases List.mem_append.mp hx with hx | hx
            · exact hs1 x hx
            · rw [List.mem_singleton.mp hx]
              exact hl5
    · obtain ⟨ss, x5, x6, x7, rfl, hP1, e1, ho1, hl1, hs1⟩ := hW
      walk_at "go"
      exact q o ss H1 hP1 e1 no ho1 (by omega) hs1
end
end
section
open PySem PySem.Spec PyProof.Rows L2
theorem But2.tup {p g : Addr} {H H' : Hp} {a : Addr} {xs : List V} (e : But2 p g H H') (hP : PoolAt H p g) (h : H a = some (.tup xs)) : H' a = some (.tup xs) := by
  obtain ⟨_, ns, m, c, h1, h2, _⟩ := hP
  exact e _ _ h (ne_of h h1 (fun z => nomatch z)) (ne_of h h2 (fun z => nomatch z))
theorem But2.dT {p g : Addr} {H H' : Hp} {a : Addr} {xs : List (List Key × V)} (e : But2 p g H H') (hP : PoolAt H p g) (h : H a = some (.dT xs)) : H' a = some (.dT xs) := by
  obtain ⟨_, ns, m, c, h1, h2, _⟩ := hP
  exact e _ _ h (ne_of h h1 (fun z => nomatch z)) (ne_of h h2 (fun z => nomatch z))
/-- pool unchanged by a store at another object -/
theorem PoolAt.put {H : Hp} {p g a : Addr} {o : HO} (hP : PoolAt H p g) (h1 : a ≠ p) (h2 : a ≠ g) : PoolAt (upd H a o) p g := by
  obtain ⟨n, ns, m, c, z1, z2, r⟩ := hP
  exact ⟨n, ns, m, c, by rw [upd_ne h1.symm]; exact z1, by rw [upd_ne h2.symm]; exact z2, r⟩
theorem But2.mut {p g : Addr} {H H' : Hp} {a : Addr} {o : HO} (e : But2 p g H H') (h : H a = none) : But2 p g H (upd H' a o) := fun b x hb h1 h2 => by
  rw [upd_ne (ne_of_none hb h)]
  exact e b x hb h1 h2
section
variable {P : Program} {w : World} {K : PySem.W.Frag} {mg : Str → Option Value} {base : Heap}
/-- one of a written row -/
theorem one_lit {H : Hp} {p g : Addr} {Q : VK} {xs : List V} (hP : PoolAt H p g) (hne : xs ≠ []) (hl : xs.length ≤ 100) (h : ∀ (v : V) (H' : Hp), v ∈ xs → PoolAt H' p g → But2 p g H H' → Q v H') :
    xs.length ≤ sizeLine ∧ ∀ c, H c = none → spOne K [.ref p, .ref c] (upd H c (.lst xs)) Q C8.E0 := by
  refine ⟨sz_le (by omega), fun c nc => ?_⟩
  have ncp : c ≠ p := fun z => hP.np (by rw [← z]; exact nc)
  have ncg : c ≠ g := fun z => hP.ng (by rw [← z]; exact nc)
  exact ⟨p, g, c, xs, rfl, hP.keep (same_upd nc), SqL.of upd_same, hne, by omega, ncp, ncg, fun v H' hv hP' e => h v H' hv hP' ((But2.of (same_upd nc)).trans e)⟩
/-! ### _law_spans -/
abbrev s_spans : Stmt := topS 8
abbrev N_spans : List Str := ["pool", "count", "way", "told", "far", "i", "low", "high"]
theorem sc_spans : FnScope N_spans ["pool", "count"] (defScope s_spans) := ⟨rfl, rfl, rfl, by decide +kernel, rfl, by decide +kernel, by decide +kernel⟩
def SpanL (H : Hp) (as : List Addr) : Prop := ∀ a ∈ as, ∃ lo hi : Int, H a = some (.tup [.int lo, .int hi]) ∧ 0 ≤ lo ∧ lo ≤ hi
def spSpans : Sp := fun vs H Q _ => ∃ (p g : Addr) (n : Int), vs = [.ref p, .int n] ∧ PoolAt H p g ∧ 0 ≤ n ∧ n ≤ 16 ∧
  ∀ (o : Addr) (as : List Addr) (H' : Hp), PoolAt H' p g → But2 p g H H' → H o = none → H' o = some (.lst (as.map V.ref)) → (as.length : Int) = n → SpanL H' as → Q (.ref o) H'
theorem ok_spans {k : Nat} (D : DefAt K mg "_law_spans" s_spans ["pool", "count"]) (T : Txt mg) (c_pick : C8.Cal P w K mg base (k + 1) "_law_pick" spPick []) (c_one : C8.Cal P w K mg base (k + 2) "_law_one" (spOne K) []) : C8.Cal P w K mg base (k + 3) "_law_spans" spSpans [] := by
  obtain ⟨f, fd, F, hg, b⟩ := D.ex
  refine cal_of F hg b sc_spans (fun vs H Q E h => ?_) (fun cdv A outer s H vs Q E hr h => ?_)
  · obtain ⟨p, g, n, rfl, _⟩ := h
    rfl
  · obtain ⟨p, g, n, rfl, hP, hn0, hn1, q⟩ := h
    refine ⟨_, (pss_cons (ps_set (i := 2) sc_spans.nd rfl (.inl rfl) (C8.pe_c c_pick hr (by omega) (by rfl) (pa_cons (pv 0) (pa_cons pe_int pa_nil))))
(pss_cons (ps_set (i := 3) sc_spans.nd rfl (.inl rfl) (pe_lst pa_nil))
(pss_cons (ps_set (i := 4) sc_spans.nd rfl (.inl rfl) pe_int)
(pss_cons (ps_for PassesOwn.never rfl (pi_range1 rfl T.range (pa_cons (pv 1) pa_nil)) (pg_name (i := 5) sc_spans.nd rfl (.inl rfl))
    (pss_cons (ps_set (i := 6) sc_spans.nd rfl (.inl rfl) (C8.pe_c c_pick hr (by omega) (by rfl) (pa_cons (pv 0) (pa_cons pe_int pa_nil))))
    (pss_cons (ps_set (i := 7) sc_spans.nd rfl (.inl rfl) (pe_op op_add (pv 6) (C8.pe_c c_one hr (by omega) (by rfl) (pa_cons (pv 0) (pa_cons (pe_lst (pa_cons pe_int (pa_cons pe_int (pa_cons pe_int (pa_cons pe_int (pa_cons pe_int (pa_cons pe_int pa_nil))))))) pa_nil)))))
    (C8.pss_cut (ps_if (pt_cmpR op_eq (pv 2) pe_int (nomark _))
        (pss_cons (ps_set (i := 6) sc_spans.nd rfl (.inl rfl) (pe_op op_add (pv 4) (C8.pe_c c_one hr (by omega) (by rfl) (pa_cons (pv 0) (pa_cons (pe_lst (pa_cons pe_int (pa_cons pe_int (pa_cons pe_int pa_nil)))) pa_nil)))))
        (pss_one (ps_set (i := 7) sc_spans.nd rfl (.inl rfl) (pe_op op_add (pv 6) (C8.pe_c c_pick hr (by omega) (by rfl) (pa_cons (pv 0) (pa_cons pe_int pa_nil)))))))
      pss_nil)
    (C8.pss_cut (ps_if (pt_cmpR op_eq (pv 2) pe_int (nomark _))
        (pss_cons (ps_set (i := 6) sc_spans.nd rfl (.inl rfl) (pe_op op_add (pe_op op_mul pe_int (pv 5)) (C8.pe_c c_pick hr (by omega) (by rfl) (pa_cons (pv 0) (pa_cons pe_int pa_nil)))))
        (pss_one (ps_set (i := 7) sc_spans.nd rfl (.inl rfl) (pe_op op_sub pe_int (pe_op op_mul pe_int (pv 5))))))
      pss_nil)
    (C8.pss_cut (ps_if (pt_cmpR op_eq (pv 2) pe_int (nomark _))
        (pss_cons (ps_set (i := 7) sc_spans.nd rfl (.inl rfl) (pe_op op_add (pe_op op_mul pe_int (C8.pe_c c_pick hr (by omega) (by rfl) (pa_cons (pv 0) (pa_cons pe_int pa_nil)))) pe_int))
        (pss_cons (ps_set (i := 6) sc_spans.nd rfl (.inl rfl) (pe_op op_sub (pv 7) (C8.pe_c c_pick hr (by omega) (by rfl) (pa_cons (pv 0) (pa_cons pe_int pa_nil)))))
        (pss_one (ps_set (i := 7) sc_spans.nd rfl (.inl rfl) (pe_op op_add (pv 7) (C8.pe_c c_pick hr (by omega) (by rfl) (pa_cons (pv 0) (pa_cons pe_int pa_nil))))))))
      pss_nil)
    (C8.pss_cut (ps_if (PW.pt (pw_and (pt_cmpR op_eq (pv 2) pe_int (nomark _)) (pw_and1 (pt_cmpR op_eq (pe_op op_mod (pv 5) pe_int) pe_int (nomark _)))))
        (pss_cons (ps_set (i := 6) sc_spans.nd rfl (.inl rfl) pe_int)
        (pss_one (ps_set (i := 7) sc_spans.nd rfl (.inl rfl) pe_int)))
      pss_nil)
    (pss_cons (ps_set (i := 4) sc_spans.nd rfl (.inl rfl) (pv 7))
    (pss_one (ps_expr (pe_bm PySem.F.plainAttrs_list PySem.F.slot_list_append PySem.F.type_list_append mt_append (pv 3) (pa_cons (pe_tup (pa_cons (pv 6) (pa_cons (pv 7) pa_nil))) pa_nil))))))))))))
(pss_one (ps_ret (pv 3))))))), ?_⟩
    walk_at "go"
    refine ⟨p, g, 5, rfl, hP, by omega, fun way H1 hP1 e1 w0 w1 => ?_⟩
    walk_at "go"
    refine ⟨Nat.zero_le _, fun o no1 => ?_⟩
    have no : H o = none := e1.free no1 hP1.np hP1.ng
    have nop : o ≠ p := fun z => hP.np (by rw [← z]; exact no)
    have nog : o ≠ g := fun z => hP.ng (by rw [← z]; exact no)
    walk_at "go"
    refine ⟨n, rfl, by omega, by omega, ?_⟩
    refine for_range (lo := 0) (n := n.toNat) (fun i σ H' => ∃ (as : List Addr) (far : Int) (x5 x6 x7 : Option V), σ = [some (.ref p), some (.int n), some (.int way), some (.ref o), some (.int far), x5, x6, x7] ∧ PoolAt H' p g ∧ But2 p g H H' ∧ H' o = some (.lst (as.map V.ref)) ∧ as.length = i ∧ SpanL H' as ∧ 0 ≤ far)
      ⟨[], 0, none, none, none, rfl, hP1.keep (same_upd no1), e1.trans (But2.of (same_upd no1)), upd_same, rfl, fun x hx => (nomatch hx), Int.le_refl _⟩ (fun i σ H2 hi hW => ?_) (fun σ H2 hW => ?_)
    · obtain ⟨as, far, x5, x6, x7, rfl, hP2, e2, ho2, hl2, hs2, f0⟩ := hW
      -- what holds after each test
      have keep : ∀ {H3 H4 : Hp}, PoolAt H3 p g → But2 p g H3 H4 → SpanL H3 as → SpanL H4 as := fun hP3 e3 h3 a ha => by
        obtain ⟨lo, hi', z1, z2⟩ := h3 a ha
        exact ⟨lo, hi', e3.tup hP3 z1, z2⟩
      let M : L2.St → Hp → Prop := fun σ H' => ∃ (lo hi' : Int), σ = [some (.ref p), some (.int n), some (.int way), some (.ref o), some (.int far), some (.int (0 + (i : Int))), some (.int lo), some (.int hi')] ∧ 0 ≤ lo ∧ lo ≤ hi' ∧ PoolAt H' p g ∧ But2 p g H H' ∧ H' o = some (.lst (as.map V.ref)) ∧ SpanL H' as
      walk_at "go"
      refine ⟨p, g, 25, rfl, hP2, by omega, fun lo H3 hP3 e3 l0 l1 => ?_⟩
      walk_at "go"
      refine one_lit hP3 (by simp) (by simp) fun v H4 hv hP4 e4 => ?_
      obtain ⟨m, rfl, m0⟩ : ∃ m : Int, v = .int m ∧ 0 ≤ m := by
        simp only [List.mem_cons, List.not_mem_nil, or_false] at hv
        rcases hv with rfl | rfl | rfl | rfl | rfl | rfl <;> exact ⟨_, rfl, by decide⟩
      walk_at "go"
      have hM : M [some (.ref p), some (.int n), some (.int way), some (.ref o), some (.int far), some (.int (0 + (i : Int))), some (.int lo), some (.int (lo + m))] H4 :=
        ⟨lo, lo + m, rfl, l0, by omega, hP4, (e2.trans e3).trans e4, e4 _ _ (e3 _ _ ho2 nop nog) nop nog, keep hP3 e4 (keep hP2 e3 hs2)⟩
      refine ⟨M, ?_, ?_⟩
      · walk_at "go"
        refine ite2 (fun _ => ?_) (fun _ => ?_)
        · walk_at "go"
          refine one_lit hP4 (by simp) (by simp) fun v H5 hv hP5 e5 => ?_
          obtain ⟨m5, rfl, m50⟩ : ∃ m : Int, v = .int m ∧ 0 ≤ m := by
            simp only [List.mem_cons, List.not_mem_nil, or_false] at hv
            rcases hv with rfl | rfl | rfl <;> exact ⟨_, rfl, by decide⟩
          walk_at "go"
          refine ⟨p, g, 4, rfl, hP5, by omega, fun r6 H6 hP6 e6 r60 r61 => ?_⟩
          walk_at "go"
          obtain ⟨_, _, e0, a0, a1, a2, a3, a4, a5⟩ := hM
          exact ⟨_, _, rfl, by omega, by omega, hP6, (a3.trans e5).trans e6, e6 _ _ (e5 _ _ a4 nop nog) nop nog, keep hP5 e6 (keep hP4 e5 a5)⟩
        · walk_at "go"
          exact hM
      · clear hM hP4 e4 m0 hP3 e3
        rintro σ H3 ⟨lo, hi', rfl, l0, lh, hP3, e3, ho3, hs3⟩
        refine ⟨M, ?_, ?_⟩
        · walk_at "go"
          refine ite2 (fun _ => ?_) (fun _ => ?_)
          · walk_at "go"
            refine ⟨p, g, 3, rfl, hP3, by omega, fun r6 H6 hP6 e6 r60 r61 => ?_⟩
            walk_at "go"
            exact ⟨_, _, rfl, by omega, by omega, hP6, e3.trans e6, e6 _ _ ho3 nop nog, keep hP3 e6 hs3⟩
          · walk_at "go"
            exact ⟨lo, hi', rfl, l0, lh, hP3, e3, ho3, hs3⟩
        · clear l0 lh hP3 e3 ho3 hs3
          rintro σ H3 ⟨lo, hi', rfl, l0, lh, hP3, e3, ho3, hs3⟩
          refine ⟨M, ?_, ?_⟩
          · walk_at "go"
            refine ite2 (fun _ => ?_) (fun _ => ?_)
            · walk_at "go"
              refine ⟨p, g, 4, rfl, hP3, by omega, fun r4 H4 hP4 e4 r40 r41 => ?_⟩
              walk_at "go"
              refine ⟨p, g, 12, rfl, hP4, by omega, fun r5 H5 hP5 e5 r50 r51 => ?_⟩
              walk_at "go"
              refine ⟨p, g, 12, rfl, hP5, by omega, fun r6 H6 hP6 e6 r60 r61 => ?_⟩
              walk_at "go"
              exact ⟨_, _, rfl, by omega, by omega, hP6, ((e3.trans e4).trans e5).trans e6, e6 _ _ (e5 _ _ (e4 _ _ ho3 nop nog) nop nog) nop nog, keep hP5 e6 (keep hP4 e5 (keep hP3 e4 hs3))⟩
            · walk_at "go"
              exact ⟨lo, hi', rfl, l0, lh, hP3, e3, ho3, hs3⟩
          · clear l0 lh hP3 e3 ho3 hs3
            rintro σ H3 ⟨lo, hi', rfl, l0, lh, hP3, e3, ho3, hs3⟩
            refine ⟨M, ?_, ?_⟩
            · walk_at "go"
              refine r_ite (fun _ => ?_) (fun _ => ?_)
              · walk_at "go"
                refine r_ite (fun _ => ?_) (fun _ => ?_)
                · walk_at "go"
                  exact ⟨0, 150, rfl, by decide, by decide, hP3, e3, ho3, hs3⟩
                · walk_at "go"
                  exact ⟨lo, hi', rfl, l0, lh, hP3, e3, ho3, hs3⟩
              · refine r_ite (fun z => nomatch z) (fun _ => ?_)
                walk_at "go"
                exact ⟨lo, hi', rfl, l0, lh, hP3, e3, ho3, hs3⟩
            · clear l0 lh hP3 e3 ho3 hs3
              rintro σ H3 ⟨lo, hi', rfl, l0, lh, hP3, e3, ho3, hs3⟩
              walk_at "go"
              refine ⟨tyL ho3, ?_⟩
              walk_at "go"
              refine ⟨sz_le (by simp), fun c nc => ?_⟩
              have noc : o ≠ c := ne_of_none ho3 nc
              walk_at "go"
              refine r_append (by rw [upd_ne noc]; exact ho3) (by rw [List.length_map]; omega) ?_
              walk_at "go"
              refine ⟨as ++ [c], hi', _, _, _, rfl, (hP3.keep (same_upd nc)).put nop nog, (e3.trans (But2.of (same_upd nc))).mut no, by rw [upd_same, List.map_append]; rfl, by rw [List.length_append, List.length_singleton, hl2], fun a ha => ?_, by omega⟩
              have nco : c ≠ o := noc.symm
              rcases List.mem_append.mp ha with ha | ha
              · obtain ⟨l1, h1, z1, z2⟩ := hs3 a ha
                refine ⟨l1, h1, ?_, z2⟩
                rw [upd_ne (ne_of z1 ho3 (fun z => nomatch z)), upd_ne (ne_of_none z1 nc)]
                exact z1
              · rw [List.mem_singleton.mp ha]
                exact ⟨lo, hi', by rw [upd_ne nco, upd_same], l0, lh⟩
    · obtain ⟨as, far, x5, x6, x7, rfl, hP2, e2, ho2, hl2, hs2, f0⟩ := hW
      walk_at "go"
      exact q o as H2 hP2 e2 no ho2 (by omega) hs2
end
end
section
open PySem PySem.Spec PyProof.Rows L2
section
variable {P : Program} {w : World} {K : PySem.W.Frag} {mg : Str → Option Value} {base : Heap}
/-- a dict locked, then let go -/
theorem same_lock {H H' : Hp} {d : Addr} {u o : HO} (hd : H d = some u) (s : Same (upd H d o) H') : Same H (upd H' d u) := fun b x e => by
  by_cases hb : b = d
  · subst hb
    rw [hd] at e
    cases e
    exact upd_same
  · rw [upd_ne hb]
    exact s b x (by rw [upd_ne hb]; exact e)
/-! ### _law_units -/
abbrev s_units : Stmt := topS 10
abbrev N_units : List Str := ["at", "p"]
theorem sc_units : FnScope N_units ["at"] (defScope s_units) := ⟨rfl, rfl, rfl, by decide +kernel, rfl, by decide +kernel, by decide +kernel⟩
def spUnits : Sp := fun vs H Q _ => ∃ (d : Addr) (kvs : DT), vs = [.ref d] ∧ H d = some (.dT kvs) ∧ DAt kvs ∧
  ∀ (o : Addr) (ys : List Str) (H' : Hp), Same H H' → H o = none → H' o = some (.lst (ys.map V.str)) → ys.Perm (ukeys kvs) → sortedS ys = true → Q (.ref o) H'
theorem ok_units {k : Nat} (D : DefAt K mg "_law_units" s_units ["at"]) (T : Txt mg) : C8.Cal P w K mg base (k + 1) "_law_units" spUnits [] := by
  obtain ⟨f, fd, F, hg, b⟩ := D.ex
  refine cal_of F hg b sc_units (fun vs H Q E h => ?_) (fun cdv A outer s H vs Q E hr h => ?_)
  · obtain ⟨d, kvs, rfl, _⟩ := h
    rfl
  · obtain ⟨d, kvs, rfl, hd, dk, q⟩ := h
    refine ⟨_, (pss_one (ps_ret (pe_callB (show CallR _ (.builtin "sorted") (rSortedS K) from cr_sortedS) (by rfl) T.sorted (by decide +kernel) (pa_cons (pe_lock (pe_lc (own := [("p", 1)]) rfl sc_units.nd (pi_keys (pv 0)) (blkOk_by (own := [("p", 1)]) (N := N_units) (sc := defScope s_units) (by decide +kernel)) (fun _ _ _ _ _ => (pg_name (i := 1) sc_units.nd rfl (.inl rfl))) (fun _ _ _ _ _ => pts_one (pt_cmpR op_eq (pe_ix (show IxR _ (rIxT K) from ix_tup) (pv 1) pe_int (fun _ _ => rfl)) pe_str (nomark _))) (fun _ _ _ _ _ => (pe_ix (show IxR _ (rIxT K) from ix_tup) (pv 1) pe_int (fun _ _ => rfl))))) pa_nil)))), ?_⟩
    walk_at "go"
    refine ⟨d, _, hd, trivial, fun od => ?_⟩
    refine ⟨_, rfl, d, od, rfl, .inr ⟨kvs, upd_same, fun Dl nl => ?_⟩⟩
    have nld : d ≠ Dl := ne_of_none (upd_same (H := H) (a := d)) nl
    refine lc_it walk_keysT (fun i H' => Same (upd H d (.frz od (.dT kvs))) H' ∧ H' Dl = some (.lst ((ukeys (kvs.take i)).map V.str))) ⟨same_upd nl, upd_same⟩ (fun i H' _ h => h.1 _ _ upd_same) (fun i x H1 H2 hi hP hy => ?_) (fun H1 hP => ?_)
    · obtain ⟨rfl, k, v, t, hk, rfl, ht⟩ := hy
      obtain ⟨c, n, z, e⟩ := dk.ks _ (List.mem_of_getElem? hk)
      cases e
      have ht' : SqT K H2 t [.str c, .str n] := SqT.of ht
      walk_at "go"
      refine ⟨rfl, ?_⟩
      walk_at "go"
      refine r_ixT ht' (atI_of (j := 0) rfl rfl) ?_
      walk_at "go"
      refine ite2 (fun e => ?_) (fun e => ?_)
      · have ec : c = "b" := of_decide_eq_true e
        refine (r_op ?_ : tOp _ _ _ _ _ _)
        walk_at "go"
        refine r_ixT ht' (atI_of (j := 1) rfl rfl) ?_
        have lu := ukeys_len (kvs.take i)
        have lt : (kvs.take i).length ≤ 60 := by
          rw [List.length_take]
          have := dk.ln
          omega
        refine ⟨_, hP.2, sz_lt (by rw [List.length_map]; omega), Same.mut hP.1 nl, ?_⟩
        rw [upd_same, ukeys_snoc hk, ukey_key, if_pos ec, List.map_append]
        rfl
      · have ec : ¬ c = "b" := fun z => e (decide_eq_true z)
        refine ⟨hP.1, ?_⟩
        rw [ukeys_snoc hk, ukey_key, if_neg ec, hP.2]
        simp
    · obtain ⟨s1, h1⟩ := hP
      rw [List.take_length] at h1
      refine ⟨s1 _ _ upd_same, ?_⟩
      have s2 : Same H (upd H1 d (.dT kvs)) := same_lock hd s1
      have nl0 : H Dl = none := by rw [upd_ne nld.symm] at nl; exact nl
      walk_at "go"
      have lu := ukeys_len kvs
      have lk := dk.ln
      refine ⟨Dl, ukeys kvs, rfl, SqL.of (by rw [upd_ne nld.symm]; exact h1), by omega, fun ys p hp hs np => ?_⟩
      exact q p ys _ (s2.trans (same_upd np)) (s2.free np) upd_same hp hs
/-! ### _law_meet -/
abbrev s_meet : Stmt := topS 11
abbrev N_meet : List Str := ["at", "u", "v"]
theorem sc_meet : FnScope N_meet ["at", "u", "v"] (defScope s_meet) := ⟨rfl, rfl, rfl, by decide +kernel, rfl, by decide +kernel, by decide +kernel⟩
def spMeet : Sp := fun vs H Q _ => ∃ (d : Addr) (kvs : DT) (u v : Str) (bu eu bv ev : Int), vs = [.ref d, .str u, .str v] ∧ H d = some (.dT kvs) ∧
  valV kvs (key "b" u) = some (.int bu) ∧ valV kvs (key "e" u) = some (.int eu) ∧ valV kvs (key "b" v) = some (.int bv) ∧ valV kvs (key "e" v) = some (.int ev) ∧
  ∀ (H' : Hp), Same H H' → Q (.bl (decide (bu ≤ ev) && decide (bv ≤ eu))) H'
/-- d[letter, name] -/
theorem r_key2 {K : PySem.W.Frag} {H : Hp} {d : Addr} {kvs : DT} {c n : Str} {v : V} {t : Addr} {Q : VK} (hd : H d = some (.dT kvs)) (hv : valV kvs (key c n) = some v) (ht : H t = some (.tup [.str c, .str n])) (q : Q v H) :
    ∃ a x, V.ref d = V.ref a ∧ DGet H a (.ref t) (some x) ∧ Q x H :=
  ⟨d, v, rfl, by
    have g := DGet.t (H := H) (a := d) (b := t) (kvs := kvs) (k := key c n) hd ht
    rw [hv] at g
    exact g, q⟩
theorem r_gk {σ : L2.St} {H : Hp} {i j : Nat} {d : Addr} {kvs : DT} {c n : Str} {v : V} {Q : VK} (hi : σ[i]? = some (some (.ref d))) (hj : σ[j]? = some (some (.str n))) (hd : H d = some (.dT kvs)) (hv : valV kvs (key c n) = some v) (q : ∀ H', Same H H' → Q v H') :
    tDGet (tVar i) (tTup (tCons (tC (.str c)) (tCons (tVar j) tNil))) σ H Q :=
  ⟨_, hi, _, hj, sz_le (by simp), fun t nt => r_key2 (K := default) (by rw [upd_ne (ne_of_none hd nt)]; exact hd) hv upd_same (q _ (same_upd nt))⟩
theorem ok_meet {k : Nat} (D : DefAt K mg "_law_meet" s_meet ["at", "u", "v"]) : C8.Cal P w K mg base (k + 1) "_law_meet" spMeet [] := by
  obtain ⟨f, fd, F, hg, b⟩ := D.ex
  refine cal_of F hg b sc_meet (fun vs H Q E h => ?_) (fun cdv A outer s H vs Q E hr h => ?_)
  · obtain ⟨d, kvs, u, v, bu, eu, bv, ev, rfl, _⟩ := h
    rfl
  · obtain ⟨d, kvs, u, v, bu, eu, bv, ev, rfl, hd, h1, h2, h3, h4, q⟩ := h
    have hu := hu_of hr
    refine ⟨_, (pss_one (ps_ret (pe_and (pe_cmpR op_le (pe_dget hu (pv 0) (pe_tup (pa_cons pe_str (pa_cons (pv 1) pa_nil))) (fun _ _ => rfl)) (pe_dget hu (pv 0) (pe_tup (pa_cons pe_str (pa_cons (pv 2) pa_nil))) (fun _ _ => rfl)) (nomark _)) (pe_one (pe_cmpR op_le (pe_dget hu (pv 0) (pe_tup (pa_cons pe_str (pa_cons (pv 2) pa_nil))) (fun _ _ => rfl)) (pe_dget hu (pv 0) (pe_tup (pa_cons pe_str (pa_cons (pv 1) pa_nil))) (fun _ _ => rfl)) (nomark _)))))), ?_⟩
    walk_at "go"
    refine r_gk rfl rfl hd h1 fun H1 s1 => ?_
    walk_at "go"
    refine r_gk rfl rfl (s1 _ _ hd) h4 fun H2 s2 => ?_
    walk_at "go"
    refine r_ite (fun e => ?_) (fun e => ?_)
    · refine (show tOp _ _ _ _ _ _ from ?_)
      walk_at "go"
      refine r_gk rfl rfl (s2 _ _ (s1 _ _ hd)) h3 fun H3 s3 => ?_
      walk_at "go"
      refine r_gk rfl rfl (s3 _ _ (s2 _ _ (s1 _ _ hd))) h2 fun H4 s4 => ?_
      walk_at "go"
      have := q H4 (((s1.trans s2).trans s3).trans s4)
      rw [e, Bool.true_and] at this
      exact this
    · have := q H2 (s1.trans s2)
      rw [e, Bool.false_and] at this
      exact this
end
end
section
open PySem PySem.Spec PyProof.Rows L2
/-- d[letter, name] = v -/
theorem r_putkey {H : Hp} {d : Addr} {kvs : DT} {c n : Str} {v : V} {QH : Hp → Prop} (hd : H d = some (.dT kvs)) (hl : kvs.length ≤ 60) (q : ∀ H', H' d = some (.dT (putK kvs (key c n) v)) → But1 d H H' → QH H') :
    [V.str c, V.str n].length ≤ sizeLine ∧ ∀ t, H t = none → ∃ a H4, V.ref d = V.ref a ∧ DPut (upd H t (.tup [.str c, .str n])) a (.ref t) v H4 ∧ QH H4 :=
  ⟨sz_le (by simp), fun t nt => ⟨d, _, rfl, DPut.t (k := key c n) (by rw [upd_ne (ne_of_none hd nt)]; exact hd) upd_same (sz_lt (by omega)), q _ upd_same fun b o e hb => by
    rw [upd_ne hb, upd_ne (ne_of_none e nt)]
    exact e⟩⟩
structure SC (H : Hp) (p g d ou os : Addr) (us : List Str) (as : List Addr) (kvs : DT) (H' : Hp) : Prop where
  pl : PoolAt H' p g
  bt : But2 p g H H'
  dd : H' d = some (.dT kvs)
  uu : H' ou = some (.lst (us.map V.str))
  ss : H' os = some (.lst (as.map V.ref))
  sp : SpanL H' as
theorem SC.put {H : Hp} {p g d ou os : Addr} {us : List Str} {as : List Addr} {kvs kvs' : DT} {H1 H2 : Hp} (s : SC H p g d ou os us as kvs H1) (nd : H d = none) (h : H2 d = some (.dT kvs')) (b : But1 d H1 H2) : SC H p g d ou os us as kvs' H2 := by
  obtain ⟨⟨n, ns, m, c, z1, z2, r⟩, bt, dd, uu, ss, sp⟩ := s
  refine ⟨⟨n, ns, m, c, b _ _ z1 (ne_of z1 dd (fun z => nomatch z)), b _ _ z2 (ne_of z2 dd (fun z => nomatch z)), r⟩, fun x o e h1 h2 => b _ _ (bt x o e h1 h2) (ne_of_none e nd), h, b _ _ uu (ne_of uu dd (fun z => nomatch z)), b _ _ ss (ne_of ss dd (fun z => nomatch z)), fun a ha => ?_⟩
  obtain ⟨lo, hi, e1, e2⟩ := sp a ha
  exact ⟨lo, hi, b _ _ e1 (ne_of e1 dd (fun z => nomatch z)), e2⟩
theorem SC.call {H : Hp} {p g d ou os : Addr} {us : List Str} {as : List Addr} {kvs : DT} {H1 H2 : Hp} (s : SC H p g d ou os us as kvs H1) (hu1 : ou ≠ p) (hu2 : ou ≠ g) (hs1 : os ≠ p) (hs2 : os ≠ g) (hP : PoolAt H2 p g) (e : But2 p g H1 H2) : SC H p g d ou os us as kvs H2 := by
  obtain ⟨pl, bt, dd, uu, ss, sp⟩ := s
  refine ⟨hP, bt.trans e, e.dT pl dd, e _ _ uu hu1 hu2, e _ _ ss hs1 hs2, fun a ha => ?_⟩
  obtain ⟨lo, hi, e1, e2⟩ := sp a ha
  exact ⟨lo, hi, e.tup pl e1, e2⟩
section
variable {P : Program} {w : World} {K : PySem.W.Frag} {mg : Str → Option Value} {base : Heap}
/-! ### _law_scene -/
abbrev s_scene : Stmt := topS 9
abbrev N_scene : List Str := ["pool", "count", "units", "shift", "spans", "at", "i", "name"]
theorem sc_scene : FnScope N_scene ["pool"] (defScope s_scene) := ⟨rfl, rfl, rfl, by decide +kernel, rfl, by decide +kernel, by decide +kernel⟩
def spScene : Sp := fun vs H Q _ => ∃ (p g : Addr), vs = [.ref p] ∧ PoolAt H p g ∧
  ∀ (d : Addr) (kvs : DT) (H' : Hp), PoolAt H' p g → But2 p g H H' → H d = none → H' d = some (.dT kvs) → DAt kvs → Q (.ref d) H'
theorem ok_scene {k : Nat} (D : DefAt K mg "_law_scene" s_scene ["pool"]) (T : Txt mg) (c_pick : C8.Cal P w K mg base (k + 1) "_law_pick" spPick []) (c_one : C8.Cal P w K mg base (k + 2) "_law_one" (spOne K) [])
    (c_names : C8.Cal P w K mg base (k + 3) "_law_names" (spNames K) []) (c_spans : C8.Cal P w K mg base (k + 3) "_law_spans" spSpans []) : C8.Cal P w K mg base (k + 4) "_law_scene" spScene [] := by
  obtain ⟨f, fd, F, hg, b⟩ := D.ex
  refine cal_of F hg b sc_scene (fun vs H Q E h => ?_) (fun cdv A outer s H vs Q E hr h => ?_)
  · obtain ⟨p, g, rfl, _⟩ := h
    rfl
  · obtain ⟨p, g, rfl, hP, q⟩ := h
    have hu := hu_of hr
    refine ⟨_, (pss_cons (ps_set (i := 1) sc_scene.nd rfl (.inl rfl) (C8.pe_c c_one hr (by omega) (by rfl) (pa_cons (pv 0) (pa_cons (pe_lst (pa_cons pe_int (pa_cons pe_int (pa_cons pe_int (pa_cons pe_int (pa_cons pe_int (pa_cons pe_int (pa_cons pe_int (pa_cons pe_int (pa_cons pe_int (pa_cons pe_int pa_nil))))))))))) pa_nil))))
(pss_cons (ps_set (i := 2) sc_scene.nd rfl (.inl rfl) (C8.pe_c c_names hr (by omega) (by rfl) (pa_cons (pv 0) (pa_cons (pv 1) (pa_cons (pe_lst pa_nil) pa_nil)))))
(pss_cons (ps_set (i := 3) sc_scene.nd rfl (.inl rfl) (C8.pe_c c_one hr (by omega) (by rfl) (pa_cons (pv 0) (pa_cons (pe_lst (pa_cons pe_int (pa_cons pe_int (pa_cons pe_int (pa_cons pe_int pa_nil))))) pa_nil))))
(pss_cons (ps_set (i := 4) sc_scene.nd rfl (.inl rfl) (C8.pe_c c_spans hr (by omega) (by rfl) (pa_cons (pv 0) (pa_cons (pv 1) pa_nil))))
(pss_cons (ps_set (i := 5) sc_scene.nd rfl (.inl rfl) pe_dnewT)
(pss_cons (ps_for PassesOwn.never rfl (pi_range1 rfl T.range (pa_cons (pv 1) pa_nil)) (pg_name (i := 6) sc_scene.nd rfl (.inl rfl))
    (pss_cons (ps_dput hu (pv 5) (pe_tup (pa_cons pe_str (pa_cons (pe_ix (show IxR _ (rIxL K) from ix_list) (pv 2) (pv 6) (fun _ _ => rfl)) pa_nil))) (pe_op op_add (pe_ix (show IxR _ (rIxT K) from ix_tup) (pe_ix (show IxR _ (rIxL K) from ix_list) (pv 4) (pv 6) (fun _ _ => rfl)) pe_int (fun _ _ => rfl)) (pv 3)) rfl)
    (pss_one (ps_dput hu (pv 5) (pe_tup (pa_cons pe_str (pa_cons (pe_ix (show IxR _ (rIxL K) from ix_list) (pv 2) (pv 6) (fun _ _ => rfl)) pa_nil))) (pe_op op_add (pe_ix (show IxR _ (rIxT K) from ix_tup) (pe_ix (show IxR _ (rIxL K) from ix_list) (pv 4) (pv 6) (fun _ _ => rfl)) pe_int (fun _ _ => rfl)) (pv 3)) rfl))))
(pss_cons (ps_for PassesOwn.never rfl (pi_list (C8.pe_c c_names hr (by omega) (by rfl) (pa_cons (pv 0) (pa_cons (C8.pe_c c_pick hr (by omega) (by rfl) (pa_cons (pv 0) (pa_cons pe_int pa_nil))) (pa_cons (pe_lst pa_nil) pa_nil))))) (pg_name (i := 7) sc_scene.nd rfl (.inl rfl))
    (pss_cons (ps_dput hu (pv 5) (pe_tup (pa_cons pe_str (pa_cons (pv 7) pa_nil))) (C8.pe_c c_pick hr (by omega) (by rfl) (pa_cons (pv 0) (pa_cons pe_int pa_nil))) rfl)
    (pss_cons (ps_dput hu (pv 5) (pe_tup (pa_cons pe_str (pa_cons (pv 7) pa_nil))) (pv 3) rfl)
    (pss_one (ps_dput hu (pv 5) (pe_tup (pa_cons pe_str (pa_cons (pv 7) pa_nil))) (pe_op op_add (pv 3) (C8.pe_c c_pick hr (by omega) (by rfl) (pa_cons (pv 0) (pa_cons pe_int pa_nil)))) rfl)))))
(pss_one (ps_ret (pv 5)))))))))), ?_⟩
    have fr : ∀ {H' : Hp} {a : Addr}, But2 p g H H' → H' a = none → PoolAt H' p g → H a = none ∧ a ≠ p ∧ a ≠ g := fun {H' a} e na hP' =>
      ⟨e.free na hP'.np hP'.ng, fun z => hP'.np (by rw [← z]; exact na), fun z => hP'.ng (by rw [← z]; exact na)⟩
    walk_at "go"
    refine one_lit hP (by simp) (by simp) fun v H1 hv hP1 e1 => ?_
    obtain ⟨n, rfl, n0, n1⟩ : ∃ m : Int, v = .int m ∧ 0 ≤ m ∧ m ≤ 16 := by
      simp only [List.mem_cons, List.not_mem_nil, or_false] at hv
      rcases hv with rfl | rfl | rfl | rfl | rfl | rfl | rfl | rfl | rfl | rfl <;> exact ⟨_, rfl, by decide, by decide⟩
    clear hv
    walk_at "go"
    refine ⟨Nat.zero_le _, fun c1 nc1 => ?_⟩
    obtain ⟨_, nc1p, nc1g⟩ := fr e1 nc1 hP1
    walk_at "go"
    refine ⟨p, g, c1, n, [], rfl, hP1.keep (same_upd nc1), n0, by omega, SqL.of upd_same, nc1p, nc1g, fun ou us H2 hP2 e2 nou2 hou2 lus hus => ?_⟩
    have e02 : But2 p g H H2 := (e1.trans (But2.of (same_upd nc1))).trans e2
    have nou1 : H1 ou = none := (same_upd nc1).free nou2
    obtain ⟨nou, noup, noug⟩ := fr e1 nou1 hP1
    walk_at "go"
    refine one_lit hP2 (by simp) (by simp) fun v H3 hv hP3 e3 => ?_
    obtain ⟨sh, rfl, sh0⟩ : ∃ m : Int, v = .int m ∧ 0 ≤ m := by
      simp only [List.mem_cons, List.not_mem_nil, or_false] at hv
      rcases hv with rfl | rfl | rfl | rfl <;> exact ⟨_, rfl, by decide⟩
    clear hv
    walk_at "go"
    refine ⟨p, g, n, rfl, hP3, n0, n1, fun os as H4 hP4 e4 nos3 hos4 las hsp4 => ?_⟩
    have e03 := e02.trans e3
    obtain ⟨nos, nosp, nosg⟩ := fr e03 nos3 hP3
    have e04 := e03.trans e4
    walk_at "go"
    intro d nd4
    obtain ⟨nd, ndp, ndg⟩ := fr e04 nd4 hP4
    have hou4 := e4 _ _ (e3 _ _ hou2 noup noug) noup noug
    have s0 : SC H p g d ou os us as [] (upd H4 d (.dT [])) := ⟨hP4.keep (same_upd nd4), e04.trans (But2.of (same_upd nd4)), upd_same, same_upd nd4 _ _ hou4, same_upd nd4 _ _ hos4, fun a ha => by
      obtain ⟨lo, hi, z1, z2⟩ := hsp4 a ha
      exact ⟨lo, hi, same_upd nd4 _ _ z1, z2⟩⟩
    walk_at "go"
    refine ⟨n, rfl, by omega, by omega, ?_⟩
    refine for_range (lo := 0) (n := n.toNat) (fun i σ H' => ∃ (kvs : DT) (x6 x7 : Option V), σ = [some (.ref p), some (.int n), some (.ref ou), some (.int sh), some (.ref os), some (.ref d), x6, x7] ∧ SC H p g d ou os us as kvs H' ∧ DAt kvs ∧ kvs.length ≤ 2 * i)
      ⟨[], none, none, rfl, s0, DAt.nil, Nat.le_refl _⟩ (fun i σ H5 hi hW => ?_) (fun σ H5 hW => ?_)
    · obtain ⟨kvs, x6, x7, rfl, s5, dk, lk⟩ := hW
      have hia : i < as.length := by omega
      have hiu : i < us.length := by omega
      obtain ⟨lo, hi', za, z0, z1⟩ := s5.sp as[i] (List.getElem_mem hia)
      have ga : (as.map V.ref)[i]? = some (.ref as[i]) := by
        rw [List.getElem?_map, List.getElem?_eq_getElem hia]
        rfl
      have gu : (us.map V.str)[i]? = some (.str us[i]) := by
        rw [List.getElem?_map, List.getElem?_eq_getElem hiu]
        rfl
      walk_at "go"
      refine r_ixL (SqL.of s5.ss) (atI_of (by omega) ga) ?_
      walk_at "go"
      refine r_ixT (SqT.of za) (atI_of (j := 0) rfl rfl) ?_
      walk_at "go"
      refine r_ixL (SqL.of s5.uu) (atI_of (by omega) gu) ?_
      walk_at "go"
      refine r_putkey s5.dd (by omega) fun H6 hd6 b6 => ?_
      have s6 := s5.put nd hd6 b6
      walk_at "go"
      refine r_ixL (SqL.of s6.ss) (atI_of (by omega) ga) ?_
      walk_at "go"
      refine r_ixT (SqT.of (b6 _ _ za (ne_of za s5.dd (fun z => nomatch z)))) (atI_of (j := 1) rfl rfl) ?_
      walk_at "go"
      refine r_ixL (SqL.of s6.uu) (atI_of (by omega) gu) ?_
      walk_at "go"
      have l6 := putK_len (kvs := kvs) (k := key "b" us[i]) (.int (lo + sh))
      refine r_putkey s6.dd (by omega) fun H7 hd7 b7 => ?_
      have s7 := s6.put nd hd7 b7
      walk_at "go"
      have l7 := putK_len (kvs := putK kvs (key "b" us[i]) (.int (lo + sh))) (k := key "e" us[i]) (.int (hi' + sh))
      exact ⟨_, _, _, rfl, s7, dk.put2 (by omega) (by omega) (by omega), by omega⟩
    · obtain ⟨kvs, x6, x7, rfl, s5, dk, lk⟩ := hW
      walk_at "go"
      refine ⟨p, g, 3, rfl, s5.pl, by omega, fun r H6 hP6 e6 r0 r1 => ?_⟩
      have s6 := s5.call noup noug nosp nosg hP6 e6
      walk_at "go"
      refine ⟨Nat.zero_le _, fun c2 nc2 => ?_⟩
      obtain ⟨_, nc2p, nc2g⟩ := fr s6.bt nc2 hP6
      walk_at "go"
      refine ⟨p, g, c2, r, [], rfl, hP6.keep (same_upd nc2), r0, by omega, SqL.of upd_same, nc2p, nc2g, fun on nn H7 hP7 e7 non7 hon7 lnn hnn => ?_⟩
      have e67 : But2 p g H6 H7 := (But2.of (same_upd nc2)).trans e7
      have s7 := s6.call noup noug nosp nosg hP7 e67
      have non6 : H6 on = none := (same_upd nc2).free non7
      obtain ⟨non, nonp, nong⟩ := fr s6.bt non6 hP6
      refine ⟨on, rfl, ⟨_, SqL.of hon7⟩, ?_⟩
      refine for_list (K := K) (a := on) (xs := nn.map V.str) (fun i σ H' => ∃ (kvs : DT) (x6 x7 : Option V), σ = [some (.ref p), some (.int n), some (.ref ou), some (.int sh), some (.ref os), some (.ref d), x6, x7] ∧ SC H p g d ou os us as kvs H' ∧ DAt kvs ∧ kvs.length ≤ 32 + 3 * i ∧ H' on = some (.lst (nn.map V.str)))
        ⟨kvs, _, _, rfl, s7, dk, by omega, hon7⟩ (fun i σ H8 _ hW => ?_) (fun i x σ H8 hx hW => ?_) (fun σ H8 hW => ?_)
      · obtain ⟨_, _, _, _, _, _, _, z⟩ := hW
        exact SqL.of z
      · obtain ⟨kv, y6, y7, rfl, s8, dk8, lk8, hon8⟩ := hW
        have hin : i < nn.length := by
          have := (List.getElem?_eq_some_iff.mp hx).1
          rw [List.length_map] at this
          exact this
        obtain ⟨nm, rfl⟩ : ∃ nm : Str, x = .str nm := by
          rw [List.getElem?_map, List.getElem?_eq_getElem hin] at hx
          exact ⟨_, (Option.some.inj hx).symm⟩
        walk_at "go"
        refine ⟨p, g, 4001, rfl, s8.pl, by omega, fun r9 H9 hP9 e9 r90 r91 => ?_⟩
        have s9 := s8.call noup noug nosp nosg hP9 e9
        have hon9 := e9 _ _ hon8 nonp nong
        walk_at "go"
        refine r_putkey s9.dd (by omega) fun Ha hda ba => ?_
        have sa := s9.put nd hda ba
        have hona := ba _ _ hon9 (ne_of hon9 s9.dd (fun z => nomatch z))
        have la := putK_len (kvs := kv) (k := key "m" nm) (.int r9)
        walk_at "go"
        refine r_putkey sa.dd (by omega) fun Hb hdb bb => ?_
        have sb := sa.put nd hdb bb
        have honb := bb _ _ hona (ne_of hona sa.dd (fun z => nomatch z))
        have lb := putK_len (kvs := putK kv (key "m" nm) (.int r9)) (k := key "f" nm) (.int sh)
        walk_at "go"
        refine ⟨p, g, 160, rfl, sb.pl, by omega, fun rc Hc hPc ec rc0 rc1 => ?_⟩
        have sc := sb.call noup noug nosp nosg hPc ec
        have honc := ec _ _ honb nonp nong
        walk_at "go"
        refine r_putkey sc.dd (by omega) fun Hd hdd bd => ?_
        have sd := sc.put nd hdd bd
        have hond := bd _ _ honc (ne_of honc sc.dd (fun z => nomatch z))
        have lc := putK_len (kvs := putK (putK kv (key "m" nm) (.int r9)) (key "f" nm) (.int sh)) (k := key "l" nm) (.int (sh + rc))
        walk_at "go"
        refine ⟨_, _, _, rfl, sd, ((dk8.put1 (by decide +kernel) (by decide +kernel) (by omega)).put1 (by decide +kernel) (by decide +kernel) (by omega)).put1 (by decide +kernel) (by decide +kernel) (by omega), by omega, hond⟩
      · obtain ⟨kv, y6, y7, rfl, s8, dk8, lk8, hon8⟩ := hW
        walk_at "go"
        exact q d kv H8 s8.pl s8.bt nd s8.dd dk8
end
end
section
open PySem PySem.Spec PyProof.Rows L2
section
variable {P : Program} {w : World} {K : PySem.W.Frag} {mg : Str → Option Value} {base : Heap}
/-! ### _law_seen -/
abbrev s_seen : Stmt := topS 12
abbrev N_seen : List Str := ["at", "told", "i", "u", "y"]
theorem sc_seen : FnScope N_seen ["at", "told"] (defScope s_seen) := ⟨rfl, rfl, rfl, by decide +kernel, rfl, by decide +kernel, by decide +kernel⟩
def SeenOk (kvs : DT) (ts : List Int) : Prop := ts.Pairwise (· < ·) ∧ ∀ n ∈ ukeys kvs, ∀ i j : Int, valV kvs (key "b" n) = some (.int i) → valV kvs (key "e" n) = some (.int j) → ∃ y ∈ ts, i ≤ y ∧ y ≤ j
def spSeen : Sp := fun vs H Q _ => ∃ (d t : Addr) (kvs : DT) (ts : List Int), vs = [.ref d, .ref t] ∧ H d = some (.dT kvs) ∧ DAt kvs ∧ H t = some (.tup (ts.map V.int)) ∧ ts.length ≤ 100 ∧ SeenOk kvs ts ∧
  ∀ (H' : Hp), Same H H' → Q (.bl true) H'
theorem ok_seen {k : Nat} (D : DefAt K mg "_law_seen" s_seen ["at", "told"]) (T : Txt mg) (c_units : C8.Cal P w K mg base (k + 1) "_law_units" spUnits []) : C8.Cal P w K mg base (k + 2) "_law_seen" spSeen [] := by
  obtain ⟨f, fd, F, hg, b⟩ := D.ex
  refine cal_of F hg b sc_seen (fun vs H Q E h => ?_) (fun cdv A outer s H vs Q E hr h => ?_)
  · obtain ⟨d, t, kvs, ts, rfl, _⟩ := h
    rfl
  · obtain ⟨d, t, kvs, ts, rfl, hd, dk, ht, lt, ⟨hasc, hseen⟩, q⟩ := h
    have hu := hu_of hr
    refine ⟨_, (pss_cons (ps_if (PW.pt (pw_or (pt_not (pt_val (pe_callB (show CallR _ (.builtin "isinstance") (rIsi K) from call_isi) (by rfl) T.isinstance (by decide +kernel) (pa_cons (pv 1) (pa_cons (pe_bltn (v := .ty "tuple") (by rfl) T.tuple (by decide +kernel) rfl) pa_nil))))) (pw_or1 (pt_cmpR op_gt (pe_callB (show CallR _ (.builtin "len") (rLenQ K) from call_lenD') (by rfl) T.len PySem.boot_len (pa_cons (pe_lc (own := [("y", 4)]) rfl sc_seen.nd (pi_tup (pv 1)) (blkOk_by (own := [("y", 4)]) (N := N_seen) (sc := defScope s_seen) (by decide +kernel)) (fun _ _ _ _ _ => (pg_name (i := 4) sc_seen.nd rfl (.inl rfl))) (fun _ _ _ _ _ => pts_one (PW.pt (pw_or (pt_not (pt_val (pe_callB (show CallR _ (.builtin "isinstance") (rIsi K) from call_isi) (by rfl) T.isinstance (by decide +kernel) (pa_cons (pv 4) (pa_cons (pe_bltn (v := .ty "int") (by rfl) T.int (by decide +kernel) rfl) pa_nil))))) (pw_or1 (pt_val (pe_callB (show CallR _ (.builtin "isinstance") (rIsi K) from call_isi) (by rfl) T.isinstance (by decide +kernel) (pa_cons (pv 4) (pa_cons (pe_bltn (v := .ty "bool") (by rfl) T.bool (by decide +kernel) rfl) pa_nil)))))))) (fun _ _ _ _ _ => pe_int)) pa_nil)) pe_int (nomark _)))))
    (pss_one (ps_ret pe_bl))
  pss_nil)
(pss_cons (ps_for PassesOwn.never rfl (pi_range2 rfl T.range (pa_cons pe_int (pa_cons (pe_callB (show CallR _ (.builtin "len") (rLenQ K) from call_lenD') (by rfl) T.len PySem.boot_len (pa_cons (pv 1) pa_nil)) pa_nil))) (pg_name (i := 2) sc_seen.nd rfl (.inl rfl))
    (pss_one (ps_if (pt_cmpR op_ge (pe_ix (show IxR _ (rIxT K) from ix_tup) (pv 1) (pe_op op_sub (pv 2) pe_int) (fun _ _ => rfl)) (pe_ix (show IxR _ (rIxT K) from ix_tup) (pv 1) (pv 2) (fun _ _ => rfl)) (nomark _))
        (pss_one (ps_ret pe_bl))
      pss_nil)))
(pss_cons (ps_for PassesOwn.never rfl (pi_list (C8.pe_c c_units hr (by omega) (by rfl) (pa_cons (pv 0) pa_nil))) (pg_name (i := 3) sc_seen.nd rfl (.inr rfl))
    (pss_one (ps_if (pt_cmpR op_eq (pe_callB (show CallR _ (.builtin "len") (rLenQ K) from call_lenD') (by rfl) T.len PySem.boot_len (pa_cons (pe_lc (own := [("y", 4)]) rfl sc_seen.nd (pi_tup (pv 1)) (blkOk_by (own := [("y", 4)]) (N := N_seen) (sc := defScope s_seen) (by decide +kernel)) (fun _ _ _ _ _ => (pg_name (i := 4) sc_seen.nd rfl (.inl rfl))) (fun _ _ _ _ _ => pts_one (pt_chain op_le op_le (pe_dget hu (pv 0) (pe_tup (pa_cons pe_str (pa_cons (pv 3) pa_nil))) (fun _ _ => rfl)) (pv 4) (pe_dget hu (pv 0) (pe_tup (pa_cons pe_str (pa_cons (pv 3) pa_nil))) (fun _ _ => rfl)))) (fun _ _ _ _ _ => pe_int)) pa_nil)) pe_int (nomark _))
        (pss_one (ps_ret pe_bl))
      pss_nil)))
(pss_one (ps_ret pe_bl))))), ?_⟩
    walk_at "go"
    refine r_isTup ht ?_
    walk_at "go"
    refine r_ite (fun z => nomatch z) (fun _ => ?_)
    walk_at "go"
    refine ⟨_, rfl, t, rfl, ⟨_, SqT.of ht⟩, fun Dl nl => ?_⟩
    refine lc_it (walk_tup (xs := ts.map V.int)) (fun i H' => Same H H' ∧ H' Dl = some (.lst [])) ⟨same_upd nl, upd_same⟩ (fun i H' _ h => SqT.of (h.1 _ _ ht)) (fun i x H1 H2 hi hP hy => ?_) (fun H1 hP => ?_)
    · obtain ⟨rfl, hx⟩ := hy
      obtain ⟨z, _, rfl⟩ := List.mem_map.mp (List.mem_of_getElem? hx)
      walk_at "go"
      refine ⟨rfl, ?_⟩
      walk_at "go"
      refine r_ite (fun z => nomatch z) (fun _ => ?_)
      walk_at "go"
      exact hP
    · obtain ⟨s1, h1⟩ := hP
      walk_at "go"
      refine r_lenL (SqL.of h1) ?_
      walk_at "go"
      refine r_ite (fun z => nomatch z) (fun _ => ?_)
      walk_at "go"
      -- for i in range(1, len(told))
      refine r_lenT (SqT.of (s1 _ _ ht)) ?_
      walk_at "go"
      refine ⟨1, (ts.map V.int).length, rfl, by rw [List.length_map]; omega, ?_⟩
      refine for_range (lo := 1) (n := (((ts.map V.int).length : Int) - 1).toNat) (fun i σ H' => ∃ (x2 : Option V), σ = [some (.ref d), some (.ref t), x2, none, none] ∧ H' = H1)
        ⟨none, rfl, rfl⟩ (fun i σ H2 hi hW => ?_) (fun σ H2 hW => ?_)
      · obtain ⟨x2, rfl, rfl⟩ := hW
        rw [List.length_map] at hi
        have i0 : i < ts.length := by omega
        have i1 : i + 1 < ts.length := by omega
        have g0 : (ts.map V.int)[i]? = some (.int ts[i]) := by
          rw [List.getElem?_map, List.getElem?_eq_getElem i0]
          rfl
        have g1 : (ts.map V.int)[i + 1]? = some (.int ts[i + 1]) := by
          rw [List.getElem?_map, List.getElem?_eq_getElem i1]
          rfl
        have hlt : ts[i] < ts[i + 1] := List.pairwise_iff_getElem.mp hasc i (i + 1) i0 i1 (Nat.lt_succ_self i)
        walk_at "go"
        refine r_ixT (SqT.of (s1 _ _ ht)) (atI_of (by omega) g0) ?_
        walk_at "go"
        refine r_ixT (SqT.of (s1 _ _ ht)) (atI_of (by omega) g1) ?_
        walk_at "go"
        refine ite2 (fun e => ?_) (fun _ => ?_)
        · have := of_decide_eq_true e
          omega
        · walk_at "go"
          exact ⟨_, rfl, rfl⟩
      · obtain ⟨x2, rfl, rfl⟩ := hW
        walk_at "go"
        refine ⟨d, kvs, rfl, s1 _ _ hd, dk, fun ou us H3 s3 nou hou pu hsu => ?_⟩
        have s13 : Same H H3 := s1.trans s3
        refine ⟨ou, rfl, ⟨_, SqL.of hou⟩, ?_⟩
        refine for_list (K := K) (a := ou) (xs := us.map V.str) (fun i σ H' => ∃ (x2 x3 : Option V), σ = [some (.ref d), some (.ref t), x2, x3, none] ∧ Same H3 H')
          ⟨_, none, rfl, Same.refl _⟩ (fun i σ H4 _ hW => ?_) (fun i x σ H4 hx hW => ?_) (fun σ H4 hW => ?_)
        · obtain ⟨_, _, _, z⟩ := hW
          exact SqL.of (z _ _ hou)
        · obtain ⟨x2, x3, rfl, s4⟩ := hW
          obtain ⟨n, hn, rfl⟩ := List.mem_map.mp (List.mem_of_getElem? hx)
          have hnu : n ∈ ukeys kvs := pu.mem_iff.mp hn
          obtain ⟨bi, hbi⟩ := (ukeys_val dk).mp hnu
          obtain ⟨_, ei, hei, _⟩ := dk.be n bi hbi
          obtain ⟨y0, hy0, hy1, hy2⟩ := hseen n hnu bi ei hbi hei
          have s04 : Same H H4 := s13.trans s4
          walk_at "go"
          refine ⟨_, rfl, t, rfl, ⟨_, SqT.of (s04 _ _ ht)⟩, fun D2 n2 => ?_⟩
          refine lc_it (walk_tup (xs := ts.map V.int)) (fun i H' => Same H4 H' ∧ ∃ c : Nat, H' D2 = some (.lst (List.replicate c (V.int 1))) ∧ c ≤ i ∧ ∀ y ∈ ts.take i, bi ≤ y → y ≤ ei → 0 < c)
            ⟨same_upd n2, 0, upd_same, Nat.le_refl _, fun y hy => (nomatch hy)⟩ (fun i H' _ h => SqT.of (h.1 _ _ (s04 _ _ ht))) (fun j x H5 H6 hj hP hy => ?_) (fun H5 hP => ?_)
          · obtain ⟨rfl, hx⟩ := hy
            obtain ⟨s5, c, hc, lc, pc⟩ := hP
            rw [List.length_map] at hj
            obtain ⟨y, hy, rfl⟩ : ∃ y : Int, ts[j]? = some y ∧ x = .int y := by
              rw [List.getElem?_map, List.getElem?_eq_getElem hj] at hx
              exact ⟨_, List.getElem?_eq_getElem hj, (Option.some.inj hx).symm⟩
            walk_at "go"
            refine ⟨rfl, ?_⟩
            walk_at "go"
            refine r_gk rfl rfl (s5 _ _ (s04 _ _ hd)) hbi fun H7 s7 => ?_
            walk_at "go"
            refine r_ite (fun e1 => ?_) (fun e1 => ?_)
            · walk_at "go"
              refine r_gk rfl rfl (s7 _ _ (s5 _ _ (s04 _ _ hd))) hei fun H8 s8 => ?_
              walk_at "go"
              refine r_ite (fun e2 => ?_) (fun e2 => ?_)
              · walk_at "go"
                refine ⟨_, s8 _ _ (s7 _ _ hc), sz_lt (by rw [List.length_replicate]; omega), Same.mut ((s5.trans s7).trans s8) n2, c + 1, ?_, by omega, fun _ _ _ _ => Nat.succ_pos _⟩
                rw [upd_same, List.replicate_succ']
              · refine ⟨(s5.trans s7).trans s8, c, s8 _ _ (s7 _ _ hc), by omega, fun z hz z1 z2 => ?_⟩
                rw [List.take_add_one, hy] at hz
                rcases List.mem_append.mp hz with hz | hz
                · exact pc z hz z1 z2
                · rw [List.mem_singleton.mp hz] at z2
                  have := of_decide_eq_false e2
                  omega
            · walk_at "go"
              refine r_ite (fun z => nomatch z) (fun _ => ?_)
              refine ⟨s5.trans s7, c, s7 _ _ hc, by omega, fun z hz z1 z2 => ?_⟩
              rw [List.take_add_one, hy] at hz
              rcases List.mem_append.mp hz with hz | hz
              · exact pc z hz z1 z2
              · rw [List.mem_singleton.mp hz] at z1
                have := of_decide_eq_false e1
                omega
          · obtain ⟨s5, c, hc, lc, pc⟩ := hP
            have cp : 0 < c := pc y0 (by rw [List.length_map, List.take_length]; exact hy0) hy1 hy2
            walk_at "go"
            refine r_lenL (SqL.of hc) ?_
            walk_at "go"
            refine ite2 (fun e => ?_) (fun _ => ?_)
            · have := of_decide_eq_true e
              rw [List.length_replicate] at this
              omega
            · walk_at "go"
              exact ⟨_, _, rfl, s4.trans s5⟩
        · obtain ⟨x2, x3, rfl, s4⟩ := hW
          walk_at "go"
          exact q H4 (s13.trans s4)
end
end
section
open PySem PySem.Spec PyProof.Rows L2
def LcW (J : It) (g : TG) (tt : TT) (te : TE) (vs : List Nat) (σ : L2.St) (D : Addr) (H1 : Hp) (Q : VK) : Prop := ∃ W : Nat → Nat → Hp → Prop, (∃ m, W 0 m (upd H1 D (.lst []))) ∧ ∀ i m H, W i m H →
      (J.stop i H ∧ Q (.ref D) H) ∨ (J.go i H ∧ ∃ Nx : Hp → Prop, (∀ H', Nx H' → ∃ m', m' < m ∧ W (i + 1) m' H') ∧ ∀ x H', J.yld i H x H' → g x (wipe σ vs) H' fun σ2 H2 => wipe σ2 vs = wipe σ vs ∧ tt σ2 H2 fun b H3 =>
        if b = true then te σ2 H3 fun y H4 => ∃ acc, H4 D = some (.lst acc) ∧ acc.length < sizeLine ∧ Nx (upd H4 D (.lst (acc ++ [y]))) else Nx H3)
theorem r_lc {wi : TI} {g : TG} {tt : TT} {te : TE} {vs : List Nat} {σ : L2.St} {H : Hp} {Q : VK} (h : wi σ H fun J H1 => ∀ D, H1 D = none → LcW J g tt te vs σ D H1 Q) : tLc wi g tt te vs σ H Q := h
theorem cutV_to (xs : List V) (i : Nat) : cutV xs none (some (i : Int)) = xs.take i := by
  unfold cutV
  rw [HT.sIx_none, HT.sIx_nat, List.drop_zero]
  by_cases h : i ≤ xs.length
  · rw [Nat.min_eq_left h]
    rfl
  · rw [Nat.min_eq_right (by omega), List.take_of_length_le (by omega), List.take_of_length_le (by omega)]
/-- t[:i], less than the whole -/
theorem r_slTo {K : PySem.W.Frag} {H : Hp} {Q : VK} {a : Addr} {xs : List V} {i : Nat} {z : Int} (ez : z = (i : Int)) (hs : SqT K H a xs) (hi : i < xs.length) (h : ∀ p, H p = none → Q (.ref p) (upd H p (.tup (xs.take i)))) : rSlA K (.ref a) none (some z) H Q := by
  subst ez
  refine ⟨a, xs, rfl, hs, fun e => ?_, fun _ p np => ?_⟩
  · have e2 := e.2
    rw [HT.sIx_nat] at e2
    omega
  · rw [cutV_to]
    exact h p np
section
variable {P : Program} {w : World} {K : PySem.W.Frag} {mg : Str → Option Value} {base : Heap}
/-! ### _law_apart -/
abbrev s_apart : Stmt := topS 13
abbrev N_apart : List Str := ["at", "told", "i", "u", "v"]
theorem sc_apart : FnScope N_apart ["at", "told"] (defScope s_apart) := ⟨rfl, rfl, rfl, by decide +kernel, rfl, by decide +kernel, by decide +kernel⟩
def Lt (u v : Str) : Prop := u.cps.toList < v.cps.toList
def Off (kvs : DT) (u v : Str) : Prop := ∀ bu eu bv ev : Int, valV kvs (key "b" u) = some (.int bu) → valV kvs (key "e" u) = some (.int eu) → valV kvs (key "b" v) = some (.int bv) → valV kvs (key "e" v) = some (.int ev) → ¬ (bu ≤ ev ∧ bv ≤ eu)
def ApartOk (kvs : DT) (us : List Str) : Prop := (∀ u ∈ us, u ∈ ukeys kvs) ∧ us.Pairwise Lt ∧ us.Pairwise (Off kvs)
def spApart : Sp := fun vs H Q _ => ∃ (d t : Addr) (kvs : DT) (us : List Str), vs = [.ref d, .ref t] ∧ H d = some (.dT kvs) ∧ DAt kvs ∧ H t = some (.tup (us.map V.str)) ∧ us.length ≤ 100 ∧ ApartOk kvs us ∧
  ∀ (H' : Hp), Same H H' → Q (.bl true) H'
theorem inV_str {n : Str} {ys : List Str} (h : n ∈ ys) : inV (.str n) (ys.map V.str) = true := by
  unfold inV
  rw [List.any_eq_true]
  exact ⟨.str n, List.mem_map.mpr ⟨n, h, rfl⟩, by show (n == n) = true; exact beq_self_eq_true n⟩
theorem ok_apart {k : Nat} (D : DefAt K mg "_law_apart" s_apart ["at", "told"]) (T : Txt mg) (c_units : C8.Cal P w K mg base (k + 1) "_law_units" spUnits []) (c_meet : C8.Cal P w K mg base (k + 1) "_law_meet" spMeet []) : C8.Cal P w K mg base (k + 2) "_law_apart" spApart [] := by
  obtain ⟨f, fd, F, hg, b⟩ := D.ex
  refine cal_of F hg b sc_apart (fun vs H Q E h => ?_) (fun cdv A outer s H vs Q E hr h => ?_)
  · obtain ⟨d, t, kvs, ts, rfl, _⟩ := h
    rfl
  · obtain ⟨d, t, kvs, us, rfl, hd, dk, ht, lt, ⟨hin, hasc, hoff⟩, q⟩ := h
    have hu := hu_of hr
    refine ⟨_, (pss_cons (ps_if (PW.pt (pw_or (pt_not (pt_val (pe_callB (show CallR _ (.builtin "isinstance") (rIsi K) from call_isi) (by rfl) T.isinstance (by decide +kernel) (pa_cons (pv 1) (pa_cons (pe_bltn (v := .ty "tuple") (by rfl) T.tuple (by decide +kernel) rfl) pa_nil))))) (pw_or1 (pt_cmpR op_gt (pe_callB (show CallR _ (.builtin "len") (rLenQ K) from call_lenD') (by rfl) T.len PySem.boot_len (pa_cons (pe_lc (own := [("u", 3)]) rfl sc_apart.nd (pi_tup (pv 1)) (blkOk_by (own := [("u", 3)]) (N := N_apart) (sc := defScope s_apart) (by decide +kernel)) (fun _ _ _ _ _ => (pg_name (i := 3) sc_apart.nd rfl (.inl rfl))) (fun _ _ _ _ _ => pts_one (pt_cmpR (show OpR _ (compareOp .NotIn) (rIn K true) from op_notIn_seq) (pv 3) (C8.pe_c c_units hr (by omega) (by rfl) (pa_cons (pv 0) pa_nil)) (by with_unfolding_all rfl))) (fun _ _ _ _ _ => pe_int)) pa_nil)) pe_int (nomark _)))))
    (pss_one (ps_ret pe_bl))
  pss_nil)
(pss_cons (ps_for PassesOwn.never rfl (pi_range1 rfl T.range (pa_cons (pe_callB (show CallR _ (.builtin "len") (rLenQ K) from call_lenD') (by rfl) T.len PySem.boot_len (pa_cons (pv 1) pa_nil)) pa_nil)) (pg_name (i := 2) sc_apart.nd rfl (.inr rfl))
    (C8.pss_cut (ps_if (PW.pt (pw_and (pt_cmpR op_gt (pv 2) pe_int (nomark _)) (pw_and1 (pt_cmpR op_geS (pe_ix (show IxR _ (rIxT K) from ix_tup) (pv 1) (pe_op op_sub (pv 2) pe_int) (fun _ _ => rfl)) (pe_ix (show IxR _ (rIxT K) from ix_tup) (pv 1) (pv 2) (fun _ _ => rfl)) (nomark _)))))
        (pss_one (ps_ret pe_bl))
      pss_nil)
    (pss_one (ps_if (pt_cmpR op_gt (pe_callB (show CallR _ (.builtin "len") (rLenQ K) from call_lenD') (by rfl) T.len PySem.boot_len (pa_cons (pe_lc (own := [("v", 4)]) rfl sc_apart.nd (pi_tup (pe_slice (show SlR _ (rSlA K) from sl_tupA) (pv 1) po_none (po_some (pv 2)))) (blkOk_by (own := [("v", 4)]) (N := N_apart) (sc := defScope s_apart) (by decide +kernel)) (fun _ _ _ _ _ => (pg_name (i := 4) sc_apart.nd rfl (.inl rfl))) (fun _ _ _ _ _ => pts_one (pt_val (C8.pe_c c_meet hr (by omega) (by rfl) (pa_cons (pv 0) (pa_cons (pv 4) (pa_cons (pe_ix (show IxR _ (rIxT K) from ix_tup) (pv 1) (pv 2) (fun _ _ => rfl)) pa_nil)))))) (fun _ _ _ _ _ => pe_int)) pa_nil)) pe_int (nomark _))
        (pss_one (ps_ret pe_bl))
      pss_nil))))
(pss_one (ps_ret pe_bl)))), ?_⟩
    walk_at "go"
    refine r_isTup ht ?_
    walk_at "go"
    refine r_ite (fun z => nomatch z) (fun _ => ?_)
    walk_at "go"
    refine ⟨_, rfl, t, rfl, ⟨_, SqT.of ht⟩, fun Dl nl => ?_⟩
    refine lc_it (walk_tup (xs := us.map V.str)) (fun i H' => Same H H' ∧ H' Dl = some (.lst [])) ⟨same_upd nl, upd_same⟩ (fun i H' _ h => SqT.of (h.1 _ _ ht)) (fun i x H1 H2 hi hP hy => ?_) (fun H1 hP => ?_)
    · obtain ⟨rfl, hx⟩ := hy
      obtain ⟨n, hn, rfl⟩ := List.mem_map.mp (List.mem_of_getElem? hx)
      walk_at "go"
      refine ⟨rfl, ?_⟩
      walk_at "go"
      refine ⟨d, kvs, rfl, hP.1 _ _ hd, dk, fun o ys H3 s3 no ho py hsy => ?_⟩
      refine r_inL (SqL.of ho) rfl (flat_strs _) ?_
      rw [inV_str (py.mem_iff.mpr (hin n hn))]
      walk_at "go"
      refine r_ite (fun z => nomatch z) (fun _ => ?_)
      exact ⟨hP.1.trans s3, s3 _ _ hP.2⟩
    · obtain ⟨s1, h1⟩ := hP
      walk_at "go"
      refine r_lenL (SqL.of h1) ?_
      walk_at "go"
      refine r_ite (fun z => nomatch z) (fun _ => ?_)
      walk_at "go"
      -- for i in range(len(told))
      refine r_lenT (SqT.of (s1 _ _ ht)) ?_
      walk_at "go"
      refine ⟨(us.map V.str).length, rfl, by omega, by rw [List.length_map]; omega, ?_⟩
      rw [Int.toNat_natCast, List.length_map]
      refine for_range (lo := 0) (n := us.length) (fun i σ H' => ∃ (x2 : Option V), σ = [some (.ref d), some (.ref t), x2, none, none] ∧ Same H H')
        ⟨none, rfl, s1⟩ (fun i σ H2 hi hW => ?_) (fun σ H2 hW => ?_)
      · obtain ⟨x2, rfl, s2⟩ := hW
        have g1 : (us.map V.str)[i]? = some (.str us[i]) := by
          rw [List.getElem?_map, List.getElem?_eq_getElem hi]
          rfl
        refine ⟨fun σ H' => σ = [some (.ref d), some (.ref t), some (.int (0 + (i : Int))), none, none] ∧ H' = H2, ?_, ?_⟩
        · walk_at "go"
          refine r_ite (fun e0 => ?_) (fun e0 => ?_)
          · have hpos : 0 < i := by
              have := of_decide_eq_true e0
              omega
            have i0 : i - 1 < us.length := by omega
            have g0 : (us.map V.str)[i - 1]? = some (.str us[i - 1]) := by
              rw [List.getElem?_map, List.getElem?_eq_getElem i0]
              rfl
            have hlt : us[i - 1].cps.toList < us[i].cps.toList := List.pairwise_iff_getElem.mp hasc (i - 1) i i0 hi (by omega)
            walk_at "go"
            refine r_ixT (SqT.of (s2 _ _ ht)) (atI_of (by omega) g0) ?_
            walk_at "go"
            refine r_ixT (SqT.of (s2 _ _ ht)) (atI_of (by omega) g1) ?_
            refine ⟨_, _, rfl, rfl, ?_⟩
            rw [decide_eq_true hlt]
            walk_at "go"
            refine r_ite (fun z => nomatch z) (fun _ => ?_)
            walk_at "go"
            exact ⟨rfl, rfl⟩
          · refine r_ite (fun z => nomatch z) (fun _ => ?_)
            walk_at "go"
            exact ⟨rfl, rfl⟩
        · rintro σ H3 ⟨rfl, rfl⟩
          walk_at "go"
          refine r_lc ?_
          walk_at "go"
          refine r_slTo (i := i) (z := 0 + (i : Int)) (by omega) (SqT.of (s2 _ _ ht)) (by rw [List.length_map]; exact hi) fun t2 nt2 => ?_
          refine ⟨t2, rfl, ⟨_, SqT.of upd_same⟩, fun D2 n2 => ?_⟩
          have s3 : Same H3 (upd H3 t2 (.tup ((us.map V.str).take i))) := same_upd nt2
          refine lc_it (walk_tup (xs := (us.map V.str).take i)) (fun _ H' => Same (upd H3 t2 (.tup ((us.map V.str).take i))) H' ∧ H' D2 = some (.lst [])) ⟨same_upd n2, upd_same⟩ (fun j H' _ h => SqT.of (h.1 _ _ upd_same)) (fun j x H4 H5 hj hP hy => ?_) (fun H4 hP => ?_)
          · obtain ⟨rfl, hx⟩ := hy
            have hji : j < i := by
              rw [List.length_take] at hj
              omega
            have hju : j < us.length := by omega
            rw [List.getElem?_take_of_lt hji, List.getElem?_map, List.getElem?_eq_getElem hju] at hx
            have ex : x = .str us[j] := (Option.some.inj hx).symm
            subst ex
            obtain ⟨s4, h4⟩ := hP
            have s04 : Same H H5 := (s2.trans s3).trans s4
            obtain ⟨bj, hbj⟩ := (ukeys_val dk).mp (hin us[j] (List.getElem_mem hju))
            obtain ⟨_, ej, hej, _⟩ := dk.be _ _ hbj
            obtain ⟨bi, hbi⟩ := (ukeys_val dk).mp (hin us[i] (List.getElem_mem hi))
            obtain ⟨_, ei, hei, _⟩ := dk.be _ _ hbi
            have ho := List.pairwise_iff_getElem.mp hoff j i hju hi hji bj ej bi ei hbj hej hbi hei
            walk_at "go"
            refine ⟨rfl, ?_⟩
            walk_at "go"
            refine r_ixT (SqT.of (s04 _ _ ht)) (atI_of (by omega) g1) ?_
            walk_at "go"
            refine ⟨d, kvs, us[j], us[i], bj, ej, bi, ei, rfl, s04 _ _ hd, hbj, hej, hbi, hei, fun H6 s6 => ?_⟩
            have ef : (decide (bj ≤ ei) && decide (bi ≤ ej)) = false := by
              rw [← Bool.not_eq_true, Bool.and_eq_true]
              exact fun z => ho ⟨of_decide_eq_true z.1, of_decide_eq_true z.2⟩
            rw [ef]
            walk_at "go"
            refine r_ite (fun z => nomatch z) (fun _ => ?_)
            exact ⟨s4.trans s6, s6 _ _ h4⟩
          · obtain ⟨s4, h4⟩ := hP
            walk_at "go"
            refine r_lenL (SqL.of h4) ?_
            walk_at "go"
            refine r_ite (fun z => nomatch z) (fun _ => ?_)
            walk_at "go"
            exact ⟨_, rfl, (s2.trans s3).trans s4⟩
      · obtain ⟨x2, rfl, s2⟩ := hW
        walk_at "go"
        exact q H2 s2
end
end
section
open PySem PySem.Spec PyProof.Rows L2
theorem r_yes {σ : L2.St} {H : Hp} {A B : Hp → Prop} (h : A H) : tYes σ H (fun b H1 => if b = true then A H1 else B H1) := by
  show (if true = true then A H else B H)
  rw [if_pos rfl]
  exact h
/-- all but the tables of code objects stay; the tables still tell what they told -/
structure Ex (T : List (Addr × Str)) (H H' : Hp) : Prop where
  ext : LamX.ExtN H H'
  tab : LamX.Tabs T H → LamX.Tabs T H'
theorem Ex.refl {T : List (Addr × Str)} {H : Hp} : Ex T H H := ⟨LamX.ExtN.refl H, fun t => t⟩
theorem Ex.trans {T : List (Addr × Str)} {H H1 H2 : Hp} (a : Ex T H H1) (b : Ex T H1 H2) : Ex T H H2 := ⟨a.ext.trans b.ext, fun t => b.tab (a.tab t)⟩
theorem Ex.of {T : List (Addr × Str)} {H H' : Hp} (s : Same H H') : Ex T H H' := ⟨LamX.ExtN.of s, fun t => t.ext s⟩
theorem Ex.dT {T : List (Addr × Str)} {H H' : Hp} {a : Addr} {kvs : DT} (e : Ex T H H') (h : H a = some (.dT kvs)) : H' a = some (.dT kvs) := e.ext _ _ h (fun _ z => nomatch z)
theorem Ex.tup {T : List (Addr × Str)} {H H' : Hp} {a : Addr} {xs : List V} (e : Ex T H H') (h : H a = some (.tup xs)) : H' a = some (.tup xs) := e.ext _ _ h (fun _ z => nomatch z)
section
variable {P : Program} {w : World} {K : PySem.W.Frag} {mg : Str → Option Value} {base : Heap}
def spVisits (T : List (Addr × Str)) : Sp := fun vs H Q _ => ∃ (p h : Addr) (x y : V) (kvs : DT), vs = [.ref p] ∧ LamX.Tabs T H ∧ H p = some (.tup [.ref h, x, y]) ∧ H h = some (.dT kvs) ∧ DAt kvs ∧
  ∀ (o q1 q2 : Addr) (ts : List Int) (us : List Str) (H' : Hp), Ex T H H' → H' o = some (.tup [.ref q1, .ref q2]) → H' q1 = some (.tup (ts.map V.int)) → H' q2 = some (.tup (us.map V.str)) → ts.length = us.length → ts.length ≤ 60 → SeenOk kvs ts → ApartOk kvs us → Q (.ref o) H'
/-! ### _law_asked -/
abbrev s_asked : Stmt := topS 14
abbrev N_asked : List Str := ["at", "handed", "p", "past", "i", "told", "u"]
theorem sc_asked : FnScope N_asked ["at"] (defScope s_asked) := ⟨rfl, rfl, rfl, by decide +kernel, rfl, by decide +kernel, by decide +kernel⟩
def spAsked (T : List (Addr × Str)) : Sp := fun vs H Q _ => ∃ (d : Addr) (kvs : DT), vs = [.ref d] ∧ LamX.Tabs T H ∧ H d = some (.dT kvs) ∧ DAt kvs ∧ ∀ H', Ex T H H' → Q (.bl true) H'
theorem ok_asked {k : Nat} {TL : List (Addr × Str)} (D : DefAt K mg "_law_asked" s_asked ["at"]) (T : Txt mg) (c_units : C8.Cal P w K mg base (k + 1) "_law_units" spUnits []) (c_seen : C8.Cal P w K mg base (k + 2) "_law_seen" spSeen []) (c_apart : C8.Cal P w K mg base (k + 2) "_law_apart" spApart [])
    (c_visits : C8.Cal P w K mg base (k + 3) "visits" (spVisits TL) []) : C8.Cal P w K mg base (k + 4) "_law_asked" (spAsked TL) [] := by
  obtain ⟨f, fd, F, hg, b⟩ := D.ex
  refine cal_of F hg b sc_asked (fun vs H Q E h => ?_) (fun cdv A outer s H vs Q E hr h => ?_)
  · obtain ⟨d, kvs, rfl, _⟩ := h
    rfl
  · obtain ⟨d, kvs, rfl, hT, hd, dk, q⟩ := h
    have hu := hu_of hr
    refine ⟨_, (pss_cons (ps_set (i := 1) sc_asked.nd rfl (.inl rfl) pe_dnewT)
(pss_cons (ps_lock (ps_for PassesOwn.never rfl (pi_keys (pv 0)) (pg_name (i := 2) sc_asked.nd rfl (.inl rfl))
    (pss_one (ps_dput hu (pv 1) (pv 2) (pe_dget hu (pv 0) (pv 2) (fun _ _ => rfl)) rfl))))
(pss_cons (ps_set (i := 3) sc_asked.nd rfl (.inl rfl) (pe_tup (pa_cons (pv 1) (pa_cons (pe_callTy (show CallR _ (.type "tuple") (rTupOf K) from call_tupD) (by rfl) T.tuple (by decide +kernel) (pa_cons (pe_lc (own := [("u", 6)]) rfl sc_asked.nd (pi_list (C8.pe_c c_units hr (by omega) (by rfl) (pa_cons (pv 0) pa_nil))) (blkOk_by (own := [("u", 6)]) (N := N_asked) (sc := defScope s_asked) (by decide +kernel)) (fun _ _ _ _ _ => (pg_name (i := 6) sc_asked.nd rfl (.inl rfl))) (fun _ _ _ _ _ => pts_nil) (fun _ _ _ _ _ => (pe_tup (pa_cons (pv 6) pa_nil)))) pa_nil)) (pa_cons pe_dnewT pa_nil)))))
(pss_cons (ps_for PassesOwn.never rfl (pi_range1 rfl T.range (pa_cons pe_int pa_nil)) (pg_name (i := 4) sc_asked.nd rfl (.inl rfl))
    (pss_cons (ps_set (i := 5) sc_asked.nd rfl (.inl rfl) (C8.pe_c c_visits hr (by omega) (by rfl) (pa_cons (pv 3) pa_nil)))
    (pss_cons (ps_if (PW.pt (pw_or (pt_not (pt_val (pe_callB (show CallR _ (.builtin "isinstance") (rIsi K) from call_isi) (by rfl) T.isinstance (by decide +kernel) (pa_cons (pv 5) (pa_cons (pe_bltn (v := .ty "tuple") (by rfl) T.tuple (by decide +kernel) rfl) pa_nil))))) (pw_or1 (pt_cmpR op_ne (pe_callB (show CallR _ (.builtin "len") (rLenQ K) from call_lenD') (by rfl) T.len PySem.boot_len (pa_cons (pv 5) pa_nil)) pe_int (nomark _)))))
        (pss_one (ps_ret pe_bl))
      pss_nil)
    (pss_one (ps_if (PW.pt (pw_or (pt_not (pt_val (C8.pe_c c_seen hr (by omega) (by rfl) (pa_cons (pv 0) (pa_cons (pe_ix (show IxR _ (rIxT K) from ix_tup) (pv 5) pe_int (fun _ _ => rfl)) pa_nil))))) (pw_or (pt_not (pt_val (C8.pe_c c_apart hr (by omega) (by rfl) (pa_cons (pv 0) (pa_cons (pe_ix (show IxR _ (rIxT K) from ix_tup) (pv 5) pe_int (fun _ _ => rfl)) pa_nil))))) (pw_or1 (pt_cmpR op_ne (pe_callB (show CallR _ (.builtin "len") (rLenQ K) from call_lenD') (by rfl) T.len PySem.boot_len (pa_cons (pe_ix (show IxR _ (rIxT K) from ix_tup) (pv 5) pe_int (fun _ _ => rfl)) pa_nil)) (pe_callB (show CallR _ (.builtin "len") (rLenQ K) from call_lenD') (by rfl) T.len PySem.boot_len (pa_cons (pe_ix (show IxR _ (rIxT K) from ix_tup) (pv 5) pe_int (fun _ _ => rfl)) pa_nil)) (nomark _))))))
        (pss_one (ps_ret pe_bl))
      pss_nil)))))
(pss_one (ps_ret (pe_cmpR (op_eqDT hu) (pv 1) (pv 0) (nomark _)))))))), ?_⟩
    walk_at "go"
    intro h nh
    have ndh : d ≠ h := ne_of_none hd nh
    walk_at "go"
    refine ⟨d, .dT kvs, by rw [upd_ne ndh]; exact hd, trivial, fun od => ?_⟩
    walk_at "go"
    refine ⟨_, rfl, d, od, rfl, .inr ⟨kvs, upd_same, ?_⟩⟩
    refine for_it walk_keysT (fun i σ H' => ∃ x2 : Option V, σ = [some (.ref d), some (.ref h), x2, none, none, none, none] ∧ H' d = some (.frz od (.dT kvs)) ∧ H' h = some (.dT (kvs.take i)) ∧ ∀ b o, H b = some o → b ≠ d → H' b = some o)
      ⟨none, rfl, upd_same, by rw [upd_ne ndh.symm, upd_same]; rfl, fun b o e hb => by rw [upd_ne hb, upd_ne (ne_of_none e nh)]; exact e⟩ (fun i σ H' _ hW => ?_) (fun i x σ H1 H2 hi hW hy => ?_) (fun σ H1 hW => ?_)
    · obtain ⟨_, _, z, _⟩ := hW
      exact z
    · obtain ⟨x2, rfl, h1, h2, h3⟩ := hW
      obtain ⟨rfl, kk, v, t, hk, rfl, ht⟩ := hy
      walk_at "go"
      refine ⟨_, rfl, _, rfl, d, v, rfl, .inr ⟨kvs, kk, t, .inr ⟨od, h1⟩, rfl, ht, (mem_valV dk.nd (List.mem_of_getElem? hk)).symm⟩, ?_⟩
      walk_at "go"
      have hnew : valV (kvs.take i) kk = none := by
        cases hv : valV (kvs.take i) kk with
        | none => rfl
        | some y =>
          have hm := List.mem_iff_getElem?.mp (valV_mem hv)
          obtain ⟨j, hj⟩ := hm
          have hji : j < i := by
            have := (List.getElem?_eq_some_iff.mp hj).1
            rw [List.length_take] at this
            omega
          rw [List.getElem?_take_of_lt hji] at hj
          have nd := dk.nd
          have e1 : (kvs.map (·.1))[j]? = some kk := by rw [List.getElem?_map, hj]; rfl
          have e2 : (kvs.map (·.1))[i]? = some kk := by rw [List.getElem?_map, hk]; rfl
          have := nd_ix nd e1 e2
          omega
      refine ⟨h, _, rfl, DPut.t (k := kk) h2 ht (sz_lt (by have := dk.ln; rw [List.length_take]; omega)), ?_⟩
      refine ⟨_, rfl, by rw [upd_ne ndh]; exact h1, ?_, fun b o e hb => by rw [upd_ne (ne_of_none e nh)]; exact h3 b o e hb⟩
      rw [upd_same, putK_new _ hnew, List.take_add_one, hk]
      rfl
    · obtain ⟨x2, rfl, h1, h2, h3⟩ := hW
      rw [List.take_length] at h2
      refine ⟨h1, ?_⟩
      have hd1 : upd H1 d (.dT kvs) d = some (.dT kvs) := upd_same
      have hh1 : upd H1 d (.dT kvs) h = some (.dT kvs) := by rw [upd_ne ndh.symm]; exact h2
      have s1 : Same H (upd H1 d (.dT kvs)) := fun b o e => by
        by_cases hb : b = d
        · subst hb
          rw [hd] at e
          cases e
          exact hd1
        · rw [upd_ne hb]
          exact h3 b o e hb
      generalize upd H1 d (.dT kvs) = H2 at hd1 hh1 s1
      clear h1 h2 h3
      walk_at "go"
      refine r_lc ?_
      walk_at "go"
      refine ⟨d, kvs, rfl, hd1, dk, fun ou us H3 s3 nou hou pu hsu => ?_⟩
      refine ⟨ou, rfl, ⟨_, SqL.of hou⟩, fun Dl nl => ?_⟩
      have lus : us.length ≤ 60 := by
        rw [pu.length_eq]
        have := ukeys_len kvs
        have := dk.ln
        omega
      refine lc_it (walk_list (K := K) (a := ou) (xs := us.map V.str)) (fun i H' => Same H3 H' ∧ ∃ xs : List V, H' Dl = some (.lst xs) ∧ xs.length = i) ⟨same_upd nl, [], upd_same, rfl⟩ (fun i H' _ h => SqL.of (h.1 _ _ hou)) (fun i x H4 H5 hi hP hy => ?_) (fun H4 hP => ?_)
      · obtain ⟨rfl, hx⟩ := hy
        obtain ⟨s4, xs, hxs, lxs⟩ := hP
        rw [List.length_map] at hi
        refine ⟨rfl, r_yes ?_⟩
        walk_at "go"
        refine ⟨sz_le (by simp), fun c nc => ?_⟩
        have nDc : Dl ≠ c := ne_of_none hxs nc
        exact ⟨xs, by rw [upd_ne nDc]; exact hxs, sz_lt (by omega), Same.mut (s4.trans (same_upd nc)) nl, _, upd_same, by rw [List.length_append, lxs]; rfl⟩
      · obtain ⟨s4, xs, hxs, lxs⟩ := hP
        walk_at "go"
        refine ⟨Dl, xs, rfl, .inl ⟨SqL.of hxs, fun tt ntt => ?_⟩⟩
        walk_at "go"
        intro e0 ne0
        walk_at "go"
        refine ⟨sz_le (by simp), fun p np => ?_⟩
        have s25 : Same H2 (upd (upd H4 tt (.tup xs)) e0 (.dT [])) := ((s3.trans s4).trans (same_upd ntt)).trans (same_upd ne0)
        have s06 : Same H (upd (upd (upd H4 tt (.tup xs)) e0 (.dT [])) p (.tup [.ref h, .ref tt, .ref e0])) := (s1.trans s25).trans (same_upd np)
        have hd6 := same_upd (o := .tup [.ref h, .ref tt, .ref e0]) np _ _ (s25 _ _ hd1)
        have hh6 := same_upd (o := .tup [.ref h, .ref tt, .ref e0]) np _ _ (s25 _ _ hh1)
        have hp6 : upd (upd (upd H4 tt (.tup xs)) e0 (.dT [])) p (.tup [.ref h, .ref tt, .ref e0]) p = some (.tup [.ref h, .ref tt, .ref e0]) := upd_same
        generalize upd (upd (upd H4 tt (.tup xs)) e0 (.dT [])) p (.tup [.ref h, .ref tt, .ref e0]) = H6 at s06 hd6 hh6 hp6
        clear s25
        walk_at "go"
        refine ⟨2, rfl, by decide, by decide, ?_⟩
        refine for_range (lo := 0) (n := (2 : Int).toNat) (fun i σ H' => ∃ x4 x5 : Option V, σ = [some (.ref d), some (.ref h), x2, some (.ref p), x4, x5, none] ∧ Ex TL H6 H')
          ⟨_, _, rfl, Ex.refl⟩ (fun i σ H7 hi hW => ?_) (fun σ H7 hW => ?_)
        · obtain ⟨x4, x5, rfl, e7⟩ := hW
          walk_at "go"
          refine ⟨p, h, _, _, kvs, rfl, e7.tab (hT.ext s06), e7.tup hp6, e7.dT hh6, dk, fun o q1 q2 ts vs H8 e8 ho h1 h2 hl hl60 hsn hap => ?_⟩
          have e68 := e7.trans e8
          walk_at "go"
          refine r_isTup ho ?_
          walk_at "go"
          refine r_ite (fun z => nomatch z) (fun _ => ?_)
          walk_at "go"
          refine r_lenT (SqT.of ho) ?_
          walk_at "go"
          refine r_ite (fun z => nomatch z) (fun _ => ?_)
          walk_at "go"
          refine r_ixT (SqT.of ho) (atI_of (j := 0) rfl rfl) ?_
          walk_at "go"
          refine ⟨d, q1, kvs, ts, rfl, e68.dT hd6, dk, h1, by omega, hsn, fun H9 s9 => ?_⟩
          walk_at "go"
          refine r_ite (fun z => nomatch z) (fun _ => ?_)
          walk_at "go"
          refine r_ixT (SqT.of (s9 _ _ ho)) (atI_of (j := 1) rfl rfl) ?_
          walk_at "go"
          refine ⟨d, q2, kvs, vs, rfl, s9 _ _ (e68.dT hd6), dk, s9 _ _ h2, by omega, hap, fun Ha sa => ?_⟩
          walk_at "go"
          refine r_ite (fun z => nomatch z) (fun _ => ?_)
          walk_at "go"
          have s8a : Same H8 Ha := s9.trans sa
          refine r_ixT (SqT.of (s8a _ _ ho)) (atI_of (j := 0) rfl rfl) ?_
          walk_at "go"
          refine r_lenT (SqT.of (s8a _ _ h1)) ?_
          walk_at "go"
          refine r_ixT (SqT.of (s8a _ _ ho)) (atI_of (j := 1) rfl rfl) ?_
          walk_at "go"
          refine r_lenT (SqT.of (s8a _ _ h2)) ?_
          walk_at "go"
          rw [List.length_map, List.length_map, hl, decide_eq_true rfl]
          refine r_ite (fun z => nomatch z) (fun _ => ?_)
          walk_at "go"
          exact ⟨_, _, rfl, e68.trans (Ex.of s8a)⟩
        · obtain ⟨x4, x5, rfl, e7⟩ := hW
          walk_at "go"
          refine ⟨h, d, kvs, kvs, rfl, rfl, e7.dT hh6, e7.dT hd6, rfl, fun e he => ?_, q H7 ((Ex.of s06).trans e7)⟩
          obtain ⟨c, n, z, ez⟩ := dk.ks e he
          refine ⟨z, by rw [ez], ?_⟩
          have := mem_valV (k := e.1) (v := e.2) dk.nd he
          rw [this, ez]
end
end
section
open PySem PySem.Spec PyProof.Rows L2
/-! ### the plain law -/
theorem str_ext {a b : Str} (h : a.cps.toList = b.cps.toList) : a = b := by
  cases a with
  | mk x => cases b with
    | mk y => rw [show x = y from Array.toList_inj.mp h]
theorem lt_of_rise {a b : Str} (h : ltCps b.cps.toList a.cps.toList = false) (hn : a ≠ b) : Lt a b := by
  rw [ltCps_eq] at h
  have h1 : ¬ b.cps.toList < a.cps.toList := of_decide_eq_false h
  rcases Classical.em (a.cps.toList < b.cps.toList) with h2 | h2
  · exact h2
  · exact absurd (str_ext (List.le_antisymm h1 h2)) hn
theorem rise_pw : ∀ (r : List Str) (p : Str), risingS p r = true → (p :: r).Nodup → (p :: r).Pairwise Lt
  | [], p, _, _ => List.pairwise_singleton ..
  | x :: r, p, h, nd => by
    have h' : (!ltCps x.cps.toList p.cps.toList && risingS x r) = true := h
    rw [Bool.and_eq_true] at h'
    have nd2 := List.nodup_cons.mp nd
    have ih := rise_pw r x h'.2 nd2.2
    have hpx : Lt p x := lt_of_rise (by simpa using h'.1) (fun z => nd2.1 (by rw [z]; exact .head _))
    refine List.pairwise_cons.mpr ⟨fun y hy => ?_, ih⟩
    rcases List.mem_cons.mp hy with rfl | hy
    · exact hpx
    · exact List.lt_trans hpx ((List.pairwise_cons.mp ih).1 y hy)
theorem sorted_pw {l : List Str} (h : sortedS l = true) (nd : l.Nodup) : l.Pairwise Lt := by
  cases l with
  | nil => exact .nil
  | cons p r => exact rise_pw r p h nd
/-- the greedy row: ps what was looked at (end, name), ts the ends that were taken, us their names -/
structure GR (kvs : DT) (ps : List (Int × Str)) (ts : List Int) (us : List Str) : Prop where
  len : ts.length = us.length
  le : ts.length ≤ ps.length
  asc : ts.Pairwise (· < ·)
  old : ∀ y ∈ ts, ∃ q ∈ ps, y = q.1
  hit : ∀ q ∈ ps, ∀ b : Int, valV kvs (key "b" q.2) = some (.int b) → ∃ y ∈ ts, b ≤ y ∧ y ≤ q.1
  sub : us.Sublist (ps.map Prod.snd)
  ends : ∀ u ∈ us, ∃ y ∈ ts, valV kvs (key "e" u) = some (.int y)
  off : us.Pairwise (Off kvs)
theorem GR.nil {kvs : DT} : GR kvs [] [] [] := ⟨rfl, Nat.le_refl _, .nil, fun _ h => (nomatch h), fun _ h => (nomatch h), .slnil, fun _ h => (nomatch h), .nil⟩
theorem GR.skip {kvs : DT} {ps : List (Int × Str)} {ts : List Int} {us : List Str} {e b y : Int} {n : Str} (g : GR kvs ps ts us) (hy : y ∈ ts) (hb : valV kvs (key "b" n) = some (.int b)) (h1 : b ≤ y) (hs : ∀ q ∈ ps, q.1 ≤ e) : GR kvs (ps ++ [(e, n)]) ts us := by
  obtain ⟨a1, a2, a3, a4, a5, a6, a7, a8⟩ := g
  refine ⟨a1, by rw [List.length_append, List.length_singleton]; omega, a3, fun z hz => ?_, fun q hq b' hb' => ?_, ?_, a7, a8⟩
  · obtain ⟨q, hq, e⟩ := a4 z hz
    exact ⟨q, List.mem_append_left _ hq, e⟩
  · rcases List.mem_append.mp hq with hq | hq
    · exact a5 q hq b' hb'
    · obtain rfl := List.mem_singleton.mp hq
      rw [hb] at hb'
      cases hb'
      obtain ⟨q, hq, rfl⟩ := a4 y hy
      exact ⟨_, hy, h1, hs q hq⟩
  · rw [List.map_append]
    exact a6.trans (List.sublist_append_left _ _)
theorem GR.add {kvs : DT} {ps : List (Int × Str)} {ts : List Int} {us : List Str} {e b : Int} {n : Str} (g : GR kvs ps ts us) (hb : valV kvs (key "b" n) = some (.int b)) (he : valV kvs (key "e" n) = some (.int e)) (h1 : ∀ y ∈ ts, y < b) (h2 : b ≤ e) : GR kvs (ps ++ [(e, n)]) (ts ++ [e]) (us ++ [n]) := by
  obtain ⟨a1, a2, a3, a4, a5, a6, a7, a8⟩ := g
  refine ⟨by simp [a1], by simp; omega, ?_, fun z hz => ?_, fun q hq b' hb' => ?_, ?_, fun u hu => ?_, ?_⟩
  · refine List.pairwise_append.mpr ⟨a3, List.pairwise_singleton .., fun x hx y hy => ?_⟩
    obtain rfl := List.mem_singleton.mp hy
    have := h1 x hx
    omega
  · rcases List.mem_append.mp hz with hz | hz
    · obtain ⟨q, hq, e⟩ := a4 z hz
      exact ⟨q, List.mem_append_left _ hq, e⟩
    · obtain rfl := List.mem_singleton.mp hz
      exact ⟨_, List.mem_append_right _ (.head _), rfl⟩
  · rcases List.mem_append.mp hq with hq | hq
    · obtain ⟨y, hy, z⟩ := a5 q hq b' hb'
      exact ⟨y, List.mem_append_left _ hy, z⟩
    · obtain rfl := List.mem_singleton.mp hq
      rw [hb] at hb'
      cases hb'
      exact ⟨e, List.mem_append_right _ (.head _), h2, Int.le_refl _⟩
  · rw [List.map_append]
    exact a6.append (List.Sublist.refl _)
  · rcases List.mem_append.mp hu with hu | hu
    · obtain ⟨y, hy, z⟩ := a7 u hu
      exact ⟨y, List.mem_append_left _ hy, z⟩
    · obtain rfl := List.mem_singleton.mp hu
      exact ⟨e, List.mem_append_right _ (.head _), he⟩
  · refine List.pairwise_append.mpr ⟨a8, List.pairwise_singleton .., fun x hx y hy => ?_⟩
    obtain rfl := List.mem_singleton.mp hy
    obtain ⟨z, hz, ez⟩ := a7 x hx
    intro bu eu bv ev _ q2 q3 _
    rw [ez] at q2
    rw [hb] at q3
    cases q2
    cases q3
    have := h1 z hz
    omega
theorem last_max {ts : List Int} {y : Int} (h : ts.Pairwise (· < ·)) (e : ts.getLast? = some y) : ∀ z ∈ ts, z ≤ y := by
  intro z hz
  obtain ⟨i, hi, rfl⟩ := List.getElem_of_mem hz
  rw [List.getLast?_eq_getElem?] at e
  obtain ⟨hj, e2⟩ := List.getElem?_eq_some_iff.mp e
  rw [← e2]
  by_cases hij : i = ts.length - 1
  · subst hij
    exact Int.le_refl _
  · exact Int.le_of_lt (List.pairwise_iff_getElem.mp h i (ts.length - 1) hi hj (by omega))
theorem off_symm {kvs : DT} {u v : Str} (h : Off kvs u v) : Off kvs v u := fun bu eu bv ev h1 h2 h3 h4 z => h bv ev bu eu h3 h4 h1 h2 ⟨z.2, z.1⟩
theorem GR.seen {kvs : DT} {ps : List (Int × Str)} {ts : List Int} {us : List Str} (g : GR kvs ps ts us) (hp : ∀ q ∈ ps, valV kvs (key "e" q.2) = some (.int q.1)) (hu : ∀ n ∈ ukeys kvs, n ∈ ps.map Prod.snd) : SeenOk kvs ts := by
  refine ⟨g.asc, fun n hn i j hi hj => ?_⟩
  obtain ⟨q, hq, rfl⟩ := List.mem_map.mp (hu n hn)
  obtain ⟨y, hy, y1, y2⟩ := g.hit q hq i hi
  rw [hp q hq] at hj
  cases hj
  exact ⟨y, hy, y1, y2⟩
theorem GR.apart {kvs : DT} {ps : List (Int × Str)} {ts : List Int} {us ys : List Str} (g : GR kvs ps ts us) (nd : (ps.map Prod.snd).Nodup) (hu : ∀ n ∈ ps.map Prod.snd, n ∈ ukeys kvs) (hp : ys.Perm us) (hs : sortedS ys = true) : ApartOk kvs ys :=
  ⟨fun u hu' => hu u (g.sub.subset (hp.mem_iff.mp hu')), sorted_pw hs (hp.nodup_iff.mpr (nd.sublist g.sub)), hp.symm.pairwise g.off off_symm⟩
/-- the last year of a unit -/
def eOf (kvs : DT) (n : Str) : Int := match valV kvs (key "e" n) with
  | some (.int i) => i
  | _ => 0
theorem eOf_val {kvs : DT} {n : Str} (dk : DAt kvs) (h : n ∈ ukeys kvs) : valV kvs (key "e" n) = some (.int (eOf kvs n)) ∧ ∃ b : Int, valV kvs (key "b" n) = some (.int b) ∧ b ≤ eOf kvs n := by
  obtain ⟨b, hb⟩ := (ukeys_val dk).mp h
  obtain ⟨_, e, he, hle⟩ := dk.be n b hb
  have z : eOf kvs n = e := by
    unfold eOf
    rw [he]
  exact ⟨by rw [z]; exact he, b, hb, by rw [z]; exact hle⟩
theorem tabs_lst {T : List (Addr × Str)} {H H' : Hp} (e : ∀ b o, H b = some o → (∀ xs, o ≠ .lst xs) → H' b = some o) (t : LamX.Tabs T H) : LamX.Tabs T H' := fun p hp => by
  obtain ⟨ps, h1, h2, h3⟩ := t p hp
  refine ⟨ps, e _ _ h1 (fun _ z => nomatch z), h2, fun pos cv hc => ?_⟩
  obtain ⟨c, e1, e2⟩ := h3 pos cv hc
  exact ⟨c, e1, e _ _ e2 (fun _ z => by unfold LamX.CodeO at z; cases z)⟩
theorem r_truL {K : PySem.W.Frag} {H : Hp} {p : Addr} {xs : List V} {QB : Bool → Hp → Prop} (h : H p = some (.lst xs)) (q : QB (!xs.isEmpty) H) : ∃ k, TruV K (.ref p) H k ∧ QB k H := ⟨_, .inl ⟨_, SqL.of h, rfl⟩, q⟩
section
variable {P : Program} {w : World} {K : PySem.W.Frag} {mg : Str → Option Value} {base : Heap}
/-! ### units_in -/
abbrev s_units_in : Stmt := topS 1
abbrev N_units_in : List Str := ["past", "letter", "name"]
theorem sc_units_in : FnScope N_units_in ["past"] (defScope s_units_in) := ⟨rfl, rfl, rfl, by decide +kernel, rfl, by decide +kernel, by decide +kernel⟩
def spUnitsIn : Sp := fun vs H Q _ => ∃ (p d : Addr) (x y : V) (kvs : DT), vs = [.ref p] ∧ H p = some (.tup [.ref d, x, y]) ∧ H d = some (.dT kvs) ∧ DAt kvs ∧
  ∀ (o : Addr) (ys : List Str) (H' : Hp), Same H H' → H o = none → H' o = some (.lst (ys.map V.str)) → ys.Perm (ukeys kvs) → sortedS ys = true → Q (.ref o) H'
theorem ok_units_in {k : Nat} (D : DefAt K mg "units_in" s_units_in ["past"]) (T : Txt mg) : C8.Cal P w K mg base (k + 1) "units_in" spUnitsIn [] := by
  obtain ⟨f, fd, F, hg, b⟩ := D.ex
  refine cal_of F hg b sc_units_in (fun vs H Q E h => ?_) (fun cdv A outer s H vs Q E hr h => ?_)
  · obtain ⟨p, d, x, y, kvs, rfl, _⟩ := h
    rfl
  · obtain ⟨p, d, x, y, kvs, rfl, hp, hd, dk, q⟩ := h
    refine ⟨_, (pss_one (ps_ret (pe_callB (show CallR _ (.builtin "sorted") (rSortedS K) from cr_sortedS) (by rfl) T.sorted (by decide +kernel) (pa_cons (pe_lock (pe_lc (own := [("letter", 1), ("name", 2)]) rfl sc_units_in.nd (pi_keys (pe_ix (show IxR _ (rIxT K) from ix_tup) (pv 0) pe_int (fun _ _ => rfl))) (blkOk_by (own := [("letter", 1), ("name", 2)]) (N := N_units_in) (sc := defScope s_units_in) (by decide +kernel)) (fun _ _ _ _ _ => (show PG _ _ (gTup K 2 _) from pg_tup rfl (pgs_cons (pg_name (i := 1) sc_units_in.nd rfl (.inl rfl)) (pgs_cons (pg_name (i := 2) sc_units_in.nd rfl (.inl rfl)) pgs_nil)))) (fun _ _ _ _ _ => pts_one (pt_cmpR op_eq (pv 1) pe_str (nomark _))) (fun _ _ _ _ _ => (pv 2)))) pa_nil)))), ?_⟩
    walk_at "go"
    refine ⟨d, _, hd, trivial, fun od => ?_⟩
    have npd : p ≠ d := ne_of hp hd (fun z => nomatch z)
    refine (show tOp _ _ _ _ _ _ from ?_)
    walk_at "go"
    refine r_ixT (SqT.of (by rw [upd_ne npd]; exact hp)) (atI_of (j := 0) rfl rfl) ?_
    refine ⟨d, od, rfl, .inr ⟨kvs, upd_same, fun Dl nl => ?_⟩⟩
    have nld : d ≠ Dl := ne_of_none (upd_same (H := H) (a := d)) nl
    refine lc_it walk_keysT (fun i H' => Same (upd H d (.frz od (.dT kvs))) H' ∧ H' Dl = some (.lst ((ukeys (kvs.take i)).map V.str))) ⟨same_upd nl, upd_same⟩ (fun i H' _ h => h.1 _ _ upd_same) (fun i x H1 H2 hi hP hy => ?_) (fun H1 hP => ?_)
    · obtain ⟨rfl, k, v, t, hk, rfl, ht⟩ := hy
      obtain ⟨c, n, z, e⟩ := dk.ks _ (List.mem_of_getElem? hk)
      cases e
      have ht' : SqT K H2 t [.str c, .str n] := SqT.of ht
      refine ⟨t, _, rfl, ht', rfl, ?_⟩
      refine ⟨_, _, rfl, ?_⟩
      walk_at "go"
      refine ⟨_, _, rfl, ?_⟩
      walk_at "go"
      refine ⟨rfl, ?_⟩
      refine ⟨rfl, ?_⟩
      walk_at "go"
      refine ite2 (fun e => ?_) (fun e => ?_)
      · have ec : c = "b" := of_decide_eq_true e
        refine (show tVar _ _ _ _ from ?_)
        walk_at "go"
        have lu := ukeys_len (kvs.take i)
        have lt : (kvs.take i).length ≤ 60 := by
          rw [List.length_take]
          have := dk.ln
          omega
        refine ⟨_, hP.2, sz_lt (by rw [List.length_map]; omega), Same.mut hP.1 nl, ?_⟩
        rw [upd_same, ukeys_snoc hk, ukey_key, if_pos ec, List.map_append]
        rfl
      · have ec : ¬ c = "b" := fun z => e (decide_eq_true z)
        refine ⟨hP.1, ?_⟩
        rw [ukeys_snoc hk, ukey_key, if_neg ec, hP.2]
        simp
    · obtain ⟨s1, h1⟩ := hP
      rw [List.take_length] at h1
      refine ⟨s1 _ _ upd_same, ?_⟩
      have s2 : Same H (upd H1 d (.dT kvs)) := same_lock hd s1
      have nl0 : H Dl = none := by rw [upd_ne nld.symm] at nl; exact nl
      walk_at "go"
      have lu := ukeys_len kvs
      have lk := dk.ln
      refine ⟨Dl, ukeys kvs, rfl, SqL.of (by rw [upd_ne nld.symm]; exact h1), by omega, fun ys p hp hs np => ?_⟩
      exact q p ys _ (s2.trans (same_upd np)) (s2.free np) upd_same hp hs
/-! ### visits -/
abbrev s_visits : Stmt := topS 2
abbrev N_visits : List Str := ["past", "seen", "apart", "unit", "years"]
theorem sc_visits : FnScope N_visits ["past"] (defScope s_visits) := ⟨rfl, rfl, rfl, by decide +kernel, rfl, by decide +kernel, by decide +kernel⟩
/-- the lambda's own name -/
abbrev lamQ : Str := ("visits" ++ ".<locals>." : Str) ++ "<lambda>"
theorem ok_visits {k : Nat} {c Pt : Addr} (TB : LamX.TabB base mg c Pt) (D : DefAtC K mg "visits" s_visits ["past"] c) (T : Txt mg) (c_ui : C8.Cal P w K mg base (k + 1) "units_in" spUnitsIn []) : C8.Cal P w K mg base (k + 4) "visits" (spVisits [(Pt, lamQ)]) [] := by
  refine cal_ofC D sc_visits (fun vs H Q E h => ?_) (fun f A outer s H vs Q E hr h => ?_)
  · obtain ⟨p, h, x, y, kvs, rfl, _⟩ := h
    rfl
  · obtain ⟨p, d, x, y, kvs, rfl, hT, hp, hd, dk, q⟩ := h
    have hu := hu_of hr
    refine ⟨_, (pss_cons (ps_set (i := 4) sc_visits.nd rfl (.inr rfl) (pe_ix (show IxR _ (rIxT K) from ix_tup) (pv 0) pe_int (fun _ _ => rfl)))
(pss_cons (ps_par (i := 1) (j := 2) rfl sc_visits.nd rfl rfl (by decide) rfl rfl (pa_cons (pe_lst pa_nil) (pa_cons (pe_lst pa_nil) pa_nil)) (by rfl))
(pss_cons (ps_for PassesOwn.never rfl (pi_list (pe_sortL (T := [(Pt, lamQ)]) (N := ["name", "years"]) (fr := ["years"]) (js := [4]) (a := "name") (k := k) TB rfl (.head _) (fun p hp _ => by obtain rfl := List.mem_singleton.mp hp; rfl) hr (Nat.le_refl _) (by rfl) T.sorted (by decide +kernel) (pa_cons (C8.pe_c c_ui hr (by omega) (by rfl) (pa_cons (pv 0) pa_nil)) pa_nil)
      (NdefX.nscope_by (by decide +kernel)) (by rfl) (NdefX.ndef_free (fr := ["years"]) (show NdefX.ndefB (defScope s_visits) _ ["years"] = true from by decide +kernel)) (NdefX.ndef_fr (sc := defScope s_visits) (by decide +kernel)) (by rfl) (fun _ _ _ _ _ us hl => match us, hl with | [_], _ => rfl)
      (fun _ _ _ _ _ _ hr2 => pe_dget (hu_of hr2) (pv 1) (pe_tup (pa_cons pe_str (pa_cons (pv 0) pa_nil))) (fun _ _ => rfl)))) (pg_name (i := 3) sc_visits.nd rfl (.inl rfl))
    (pss_one (ps_if (PW.pt (pw_or (pt_not (pt_truth (pv 1) (by intro _; rfl))) (pw_or1 (pt_cmpR op_gt (pe_dget hu (pv 4) (pe_tup (pa_cons pe_str (pa_cons (pv 3) pa_nil))) (fun _ _ => rfl)) (pe_ix (show IxR _ (rIxL K) from ix_list) (pv 1) (pe_un un_neg pe_int) (fun _ _ => rfl)) (nomark _)))))
        (pss_cons (ps_expr (pe_bm PySem.F.plainAttrs_list PySem.F.slot_list_append PySem.F.type_list_append mt_append (pv 1) (pa_cons (pe_dget hu (pv 4) (pe_tup (pa_cons pe_str (pa_cons (pv 3) pa_nil))) (fun _ _ => rfl)) pa_nil)))
        (pss_one (ps_expr (pe_bm PySem.F.plainAttrs_list PySem.F.slot_list_append PySem.F.type_list_append mt_append (pv 2) (pa_cons (pv 3) pa_nil)))))
      pss_nil)))
(pss_one (ps_ret (pe_tup (pa_cons (pe_callTy (show CallR _ (.type "tuple") (rTupOf K) from call_tupD) (by rfl) T.tuple (by decide +kernel) (pa_cons (pv 1) pa_nil)) (pa_cons (pe_callTy (show CallR _ (.type "tuple") (rTupOf K) from call_tupD) (by rfl) T.tuple (by decide +kernel) (pa_cons (pe_callB (show CallR _ (.builtin "sorted") (rSortedS K) from cr_sortedS) (by rfl) T.sorted (by decide +kernel) (pa_cons (pv 2) pa_nil)) pa_nil)) pa_nil)))))))), ?_⟩
    walk_at "go"
    refine r_ixT (SqT.of hp) (atI_of (j := 0) rfl rfl) ?_
    walk_at "go"
    refine ⟨Nat.zero_le _, fun q1 n1 => ?_⟩
    walk_at "go"
    refine ⟨Nat.zero_le _, fun q2 n2 => ?_⟩
    walk_at "go"
    refine ⟨_, _, rfl, ?_⟩
    walk_at "go"
    have n2' : H q2 = none := (same_upd n1).free n2
    have nq : q1 ≠ q2 := ne_of_none (upd_same (H := H) (a := q1)) n2
    have s02 : Same H (upd (upd H q1 (.lst [])) q2 (.lst [])) := (same_upd n1).trans (same_upd n2)
    unfold tSortL
    walk_at "go"
    refine ⟨p, d, x, y, kvs, rfl, s02 _ _ hp, s02 _ _ hd, dk, fun ou ys H3 s3 nou hou pu hsu => ?_⟩
    walk_at "go"
    have s03 : Same H H3 := s02.trans s3
    have hq1 : H3 q1 = some (.lst []) := s3 _ _ (by rw [upd_ne nq]; exact upd_same)
    have hq2 : H3 q2 = some (.lst []) := s3 _ _ upd_same
    have lys : ys.length ≤ 60 := by
      rw [pu.length_eq]
      have := ukeys_len kvs
      have := dk.ln
      omega
    refine ⟨ou, ys, ys.map (eOf kvs), rfl, hou, List.length_map _, lys, hT.ext s03, fun H4 e4 t4 => ⟨fun i z n hz hn H5 s5 => ?_, fun ps pl H5 s5 npl pp asc => ?_⟩⟩
    · have hzn : n = eOf kvs z := by
        rw [List.getElem?_map, hz] at hn
        exact (Option.some.inj hn).symm
      have hzu : z ∈ ukeys kvs := pu.mem_iff.mp (List.mem_of_getElem? hz)
      refine r_gk (i := 1) (j := 0) rfl rfl (s5 _ _ (e4 _ _ (s03 _ _ hd) (fun _ z => nomatch z))) (eOf_val dk hzu).1 fun H6 s6 => ⟨by rw [hzn], s6⟩
    · have ppU : (ps.map Prod.snd).Perm ys := by
        have z := pp.map Prod.snd
        rw [List.map_snd_zip (by rw [List.length_map]; exact Nat.le_refl _)] at z
        exact z
      have pin : ∀ q ∈ ps, q.2 ∈ ukeys kvs ∧ q.1 = eOf kvs q.2 := fun q hq => by
        have z := pp.mem_iff.mp hq
        rw [List.zip_map_left] at z
        obtain ⟨⟨u, v⟩, hv, rfl⟩ := List.mem_map.mp z
        have hv2 := List.of_mem_zip hv
        have e : u = v := by
          obtain ⟨i, hi, e⟩ := List.getElem_of_mem hv
          rw [List.getElem_zip] at e
          have e2 := Prod.mk.inj e
          rw [← e2.1, ← e2.2]
        subst e
        exact ⟨pu.mem_iff.mp hv2.1, rfl⟩
      have ndU : (ps.map Prod.snd).Nodup := (ppU.trans pu).nodup_iff.mpr (ukeys_nd dk.nd)
      have lps : ps.length ≤ 60 := by
        have := ppU.length_eq
        rw [List.length_map] at this
        omega
      have s45 : Same H4 (upd H5 pl (.lst ((ps.map Prod.snd).map V.str))) := s5.trans (same_upd npl)
      have hpl : upd H5 pl (.lst ((ps.map Prod.snd).map V.str)) pl = some (.lst ((ps.map Prod.snd).map V.str)) := upd_same
      have nl1 : pl ≠ q1 := fun z => by
        have := s5 _ _ (e4 _ _ hq1 (fun _ z => nomatch z))
        rw [← z, npl] at this
        cases this
      have nl2 : pl ≠ q2 := fun z => by
        have := s5 _ _ (e4 _ _ hq2 (fun _ z => nomatch z))
        rw [← z, npl] at this
        cases this
      generalize upd H5 pl (.lst ((ps.map Prod.snd).map V.str)) = Hs at s45 hpl
      refine ⟨pl, rfl, ⟨_, SqL.of hpl⟩, ?_⟩
      refine for_list (K := K) (a := pl) (xs := (ps.map Prod.snd).map V.str) (fun i σ H' => ∃ (x3 : Option V) (ts : List Int) (us : List Str), σ = [some (.ref p), some (.ref q1), some (.ref q2), x3, some (.ref d)] ∧ GR kvs (ps.take i) ts us ∧ H' q1 = some (.lst (ts.map V.int)) ∧ H' q2 = some (.lst (us.map V.str)) ∧
          ∀ b o, Hs b = some o → b ≠ q1 → b ≠ q2 → H' b = some o)
        ⟨none, [], [], rfl, GR.nil, s45 _ _ (e4 _ _ hq1 (fun _ z => nomatch z)), s45 _ _ (e4 _ _ hq2 (fun _ z => nomatch z)), fun b o e _ _ => e⟩ (fun i σ H6 _ hW => ?_) (fun i z σ H6 hz hW => ?_) (fun σ H6 hW => ?_)
      · obtain ⟨_, _, _, _, _, _, _, z⟩ := hW
        exact SqL.of (z _ _ hpl nl1 nl2)
      · obtain ⟨x3, ts, us, rfl, g, h1, h2, kp⟩ := hW
        have hi : i < ps.length := by
          have := (List.getElem?_eq_some_iff.mp hz).1
          rw [List.length_map, List.length_map] at this
          exact this
        obtain rfl : z = .str ps[i].2 := by
          rw [List.getElem?_map, List.getElem?_map, List.getElem?_eq_getElem hi] at hz
          exact (Option.some.inj hz).symm
        obtain ⟨hnu, hne⟩ := pin ps[i] (List.getElem_mem hi)
        obtain ⟨ve, b, vb, hbe⟩ := eOf_val dk hnu
        rw [← hne] at ve hbe
        have hd6 : H6 d = some (.dT kvs) := kp _ _ (s45 _ _ (e4 _ _ (s03 _ _ hd) (fun _ z => nomatch z))) (ne_of_none hd n1) (ne_of_none hd n2')
        have tk : ps.take (i + 1) = ps.take i ++ [(ps[i].1, ps[i].2)] := by rw [List.take_add_one, List.getElem?_eq_getElem hi]; rfl
        have old : ∀ q ∈ ps.take i, q.1 ≤ ps[i].1 := fun q hq => by
          obtain ⟨j, hj, rfl⟩ := List.getElem_of_mem hq
          rw [List.length_take] at hj
          rw [List.getElem_take]
          exact List.pairwise_iff_getElem.mp asc j i (by omega) hi (by omega)
        have lts : ts.length ≤ 60 := by
          have := g.le
          rw [List.length_take] at this
          omega
        have lus : us.length ≤ 60 := by
          have := g.len
          omega
        have kp2 : ∀ {Hx Hy : Hp}, Same H6 Hx → (∀ c o, Hx c = some o → c ≠ q1 → c ≠ q2 → Hy c = some o) → ∀ c o, Hs c = some o → c ≠ q1 → c ≠ q2 → Hy c = some o := fun sx ky c o e h3 h4 => ky c o (sx _ _ (kp c o e h3 h4)) h3 h4
        walk_at "go"
        refine ⟨_, .inl ⟨_, SqL.of h1, rfl⟩, ?_⟩
        walk_at "go"
        refine r_ite (fun e1 => ?_) (fun e1 => ?_)
        · have ets : ts = [] := by
            cases ts with
            | nil => rfl
            | cons a r => cases e1
          have hlt : ∀ y ∈ ts, y < b := fun y hy => by rw [ets] at hy; exact nomatch hy
          walk_at "go"
          refine r_ite (fun _ => ?_) (fun z => nomatch z)
          walk_at "go"
          refine ⟨tyL h1, ?_⟩
          walk_at "go"
          refine r_gk (i := 4) (j := 3) rfl rfl hd6 ve fun H7 s7 => ?_
          walk_at "go"
          refine r_append (s7 _ _ h1) (by rw [List.length_map]; omega) ?_
          walk_at "go"
          refine ⟨tyL (by rw [upd_ne nq.symm]; exact s7 _ _ h2), ?_⟩
          walk_at "go"
          refine r_append (by rw [upd_ne nq.symm]; exact s7 _ _ h2) (by rw [List.length_map]; omega) ?_
          walk_at "go"
          refine ⟨_, ts ++ [ps[i].1], us ++ [ps[i].2], rfl, by rw [tk]; exact g.add vb ve hlt hbe, by rw [upd_ne nq, upd_same, List.map_append]; rfl, by rw [upd_same, List.map_append]; rfl, kp2 s7 fun c o e h3 h4 => by rw [upd_ne h4, upd_ne h3]; exact e⟩
        · have nts : ts ≠ [] := fun z => by
            rw [z] at e1
            cases e1
          obtain ⟨yl, hyl⟩ : ∃ yl, ts.getLast? = some yl := by
            cases hg : ts.getLast? with
            | none => exact absurd (List.getLast?_eq_none_iff.mp hg) nts
            | some yl => exact ⟨yl, rfl⟩
          have hlast : (ts.map V.int)[(ts.map V.int).length - 1]? = some (.int yl) := by
            rw [List.length_map, List.getElem?_map, ← List.getLast?_eq_getElem?, hyl]
            rfl
          have hmax := last_max g.asc hyl
          have hmem : yl ∈ ts := List.mem_of_getLast? hyl
          walk_at "go"
          refine r_gk (i := 4) (j := 3) rfl rfl hd6 vb fun H7 s7 => ?_
          walk_at "go"
          refine r_ixL (SqL.of (s7 _ _ h1)) (atI_neg1 hlast) ?_
          walk_at "go"
          refine r_ite (fun e2 => ?_) (fun e2 => ?_)
          · have e2' := of_decide_eq_true e2
            have hlt : ∀ y ∈ ts, y < b := fun y hy => by
              have := hmax y hy
              omega
            walk_at "go"
            refine ⟨tyL (s7 _ _ h1), ?_⟩
            walk_at "go"
            refine r_gk (i := 4) (j := 3) rfl rfl (s7 _ _ hd6) ve fun H8 s8 => ?_
            have s78 := s7.trans s8
            walk_at "go"
            refine r_append (s78 _ _ h1) (by rw [List.length_map]; omega) ?_
            walk_at "go"
            refine ⟨tyL (by rw [upd_ne nq.symm]; exact s78 _ _ h2), ?_⟩
            walk_at "go"
            refine r_append (by rw [upd_ne nq.symm]; exact s78 _ _ h2) (by rw [List.length_map]; omega) ?_
            walk_at "go"
            refine ⟨_, ts ++ [ps[i].1], us ++ [ps[i].2], rfl, by rw [tk]; exact g.add vb ve hlt hbe, by rw [upd_ne nq, upd_same, List.map_append]; rfl, by rw [upd_same, List.map_append]; rfl, kp2 s78 fun c o e h3 h4 => by rw [upd_ne h4, upd_ne h3]; exact e⟩
          · have e2' := of_decide_eq_false e2
            walk_at "go"
            exact ⟨_, ts, us, rfl, by rw [tk]; exact g.skip hmem vb (by omega) old, s7 _ _ h1, s7 _ _ h2, kp2 s7 fun c o e _ _ => e⟩
      · obtain ⟨x3, ts, us, rfl, g, h1, h2, kp⟩ := hW
        rw [List.take_of_length_le (by rw [List.length_map, List.length_map]; exact Nat.le_refl _)] at g
        have lts : ts.length ≤ 60 := by
          have := g.le
          omega
        have len := g.len
        have eHs : ∀ b o, Hs b = some o → (∀ xs, o ≠ .lst xs) → H6 b = some o := fun b o e n => kp b o e (fun z => n [] (Option.some.inj (e.symm.trans (by rw [z]; exact s45 _ _ (e4 _ _ hq1 (fun _ z => nomatch z)))))) (fun z => n [] (Option.some.inj (e.symm.trans (by rw [z]; exact s45 _ _ (e4 _ _ hq2 (fun _ z => nomatch z))))))
        have ex6 : Ex [(Pt, lamQ)] H H6 := ⟨fun b o e n => kp b o (s45 _ _ (e4 _ _ (s03 _ _ e) n)) (ne_of_none e n1) (ne_of_none e n2'), fun _ => tabs_lst eHs (t4.ext s45)⟩
        walk_at "go"
        refine ⟨q1, _, rfl, .inl ⟨SqL.of h1, fun t1 nt1 => ?_⟩⟩
        walk_at "go"
        refine ⟨q2, us, rfl, SqL.of (same_upd nt1 _ _ h2), by omega, fun ws pw hpw hsw npw => ?_⟩
        walk_at "go"
        refine ⟨pw, _, rfl, .inl ⟨SqL.of upd_same, fun t2 nt2 => ?_⟩⟩
        walk_at "go"
        refine ⟨sz_le (by simp), fun o no => ?_⟩
        have s6o := (((same_upd (o := .tup (ts.map V.int)) nt1).trans (same_upd (o := .lst (ws.map V.str)) npw)).trans (same_upd (o := .tup (ws.map V.str)) nt2)).trans (same_upd (o := .tup [.ref t1, .ref t2]) no)
        exact q o t1 t2 ts ws _ (ex6.trans (Ex.of s6o)) upd_same (same_upd no _ _ (same_upd nt2 _ _ (same_upd npw _ _ upd_same))) (same_upd no _ _ upd_same) (by rw [len, hpw.length_eq]) (by omega)
          (g.seen (fun q hq => by rw [(pin q hq).2]; exact (eOf_val dk (pin q hq).1).1) (fun n hn => (ppU.trans pu).mem_iff.mpr hn)) (g.apart ndU (fun n hn => (ppU.trans pu).mem_iff.mp hn) hpw hsw)
end
end
section
open PySem PySem.Spec PyProof.Rows L2
section
variable {P : Program} {w : World} {K : PySem.W.Frag} {mg : Str → Option Value} {base : Heap}
/-! ### law -/
abbrev s_law : Stmt := topS 15
abbrev N_law : List Str := ["script", "pool", "at", "other", "u"]
theorem sc_law : FnScope N_law ["script"] (defScope s_law) := ⟨rfl, rfl, rfl, by decide +kernel, rfl, by decide +kernel, by decide +kernel⟩
def spLaw (K : PySem.W.Frag) (TL : List (Addr × Str)) : Sp := fun vs H Q _ => ∃ (a : Addr) (ns : List Int), vs = [.ref a] ∧ SqL K H a (ns.map V.int) ∧ ns.length ≤ 63 ∧ LamX.Tabs TL H ∧ ∀ H', Q (.bl true) H'
/-- lists and dicts may change -/
def Soft (H H' : Hp) : Prop := ∀ b o, H b = some o → (∀ xs, o ≠ .lst xs) → (∀ kv, o ≠ .dT kv) → H' b = some o
theorem Soft.tabs {T : List (Addr × Str)} {H H' : Hp} (e : Soft H H') (t : LamX.Tabs T H) : LamX.Tabs T H' := fun p hp => by
  obtain ⟨ps, h1, h2, h3⟩ := t p hp
  refine ⟨ps, e _ _ h1 (fun _ z => nomatch z) (fun _ z => nomatch z), h2, fun pos cv hc => ?_⟩
  obtain ⟨c, e1, e2⟩ := h3 pos cv hc
  exact ⟨c, e1, e _ _ e2 (fun _ z => by unfold LamX.CodeO at z; cases z) (fun _ z => by unfold LamX.CodeO at z; cases z)⟩
theorem Soft.trans {H H1 H2 : Hp} (a : Soft H H1) (b : Soft H1 H2) : Soft H H2 := fun c o e n1 n2 => b c o (a c o e n1 n2) n1 n2
theorem Soft.of {H H' : Hp} (s : Same H H') : Soft H H' := fun c o e _ _ => s c o e
theorem PoolAt.soft {H H' : Hp} {p g : Addr} (a : PoolAt H p g) (e : But2 p g H H') : Soft H H' := fun b o h n1 _ => by
  obtain ⟨_, ns, m, c, h1, h2, _⟩ := a
  exact e b o h (fun z => n1 _ (Option.some.inj (h.symm.trans (by rw [z]; exact h1)))) (fun z => n1 _ (Option.some.inj (h.symm.trans (by rw [z]; exact h2))))
theorem Soft.but1 {H H' : Hp} {d : Addr} {kvs : DT} (hd : H d = some (.dT kvs)) (e : But1 d H H') : Soft H H' := fun b o h _ n2 => e b o h (fun z => n2 kvs (Option.some.inj (h.symm.trans (by rw [z]; exact hd))))
theorem PoolAt.keepEx {H H' : Hp} {p g : Addr} {T : List (Addr × Str)} (a : PoolAt H p g) (e : Ex T H H') : PoolAt H' p g := by
  obtain ⟨n, ns, m, c, h1, h2, r⟩ := a
  exact ⟨n, ns, m, c, e.ext _ _ h1 (fun _ z => nomatch z), e.ext _ _ h2 (fun _ z => nomatch z), r⟩
theorem PoolAt.but1 {H H' : Hp} {p g d : Addr} {kvs : DT} (a : PoolAt H p g) (hd : H d = some (.dT kvs)) (e : But1 d H H') : PoolAt H' p g := by
  obtain ⟨n, ns, m, c, h1, h2, r⟩ := a
  exact ⟨n, ns, m, c, e _ _ h1 (ne_of h1 hd (fun z => nomatch z)), e _ _ h2 (ne_of h2 hd (fun z => nomatch z)), r⟩
theorem ukeys_put {kv : DT} {n m : Str} {v : V} (dk : DAt kv) (h : m ∈ ukeys kv) : m ∈ ukeys (putK kv (key "b" n) v) := by
  obtain ⟨bm, hbm⟩ := (ukeys_val dk).mp h
  have z : (valV (putK kv (key "b" n) v) (key "b" m)).isSome = true := by
    rw [valV_put]
    split
    · rfl
    · rw [hbm]
      rfl
  obtain ⟨y, hy⟩ := Option.isSome_iff_exists.mp z
  exact mem_ukeys.mpr ⟨y, valV_mem hy⟩
theorem ok_law {k : Nat} {TL : List (Addr × Str)} {f : Addr} {fd : FuncData} (F : L2.Fun K "law" "law" s_law f fd) (T : Txt mg) (c_pool : C8.Cal P w K mg base (k + 1) "_law_pool" (spPool K) []) (c_pick : C8.Cal P w K mg base (k + 1) "_law_pick" spPick []) (c_scene : C8.Cal P w K mg base (k + 4) "_law_scene" spScene [])
    (c_units : C8.Cal P w K mg base (k + 1) "_law_units" spUnits []) (c_asked : C8.Cal P w K mg base (k + 5) "_law_asked" (spAsked TL) []) : FnOk P w K mg base L2.CX0 (k + 6) f fd ["script"] (spLaw K TL) := by
  refine F.ok sc_law (fun vs H Q E h => ?_) (fun cdv A outer s H vs Q E hr h => ?_)
  · obtain ⟨a, ns, rfl, _⟩ := h
    rfl
  · obtain ⟨a, ns, rfl, ha, ln, hT, q⟩ := h
    have hu := hu_of hr
    refine ⟨_, (pss_cons (ps_set (i := 1) sc_law.nd rfl (.inl rfl) (C8.pe_c c_pool hr (by omega) (by rfl) (pa_cons (pv 0) (pa_cons pe_int pa_nil))))
(pss_cons (ps_set (i := 2) sc_law.nd rfl (.inl rfl) (C8.pe_c c_scene hr (by omega) (by rfl) (pa_cons (pv 1) pa_nil)))
(pss_cons (ps_set (i := 3) sc_law.nd rfl (.inl rfl) (C8.pe_c c_scene hr (by omega) (by rfl) (pa_cons (pv 1) pa_nil)))
(pss_cons (ps_if (PW.pt (pw_or (pt_not (pt_val (C8.pe_c c_asked hr (by omega) (by rfl) (pa_cons (pv 2) pa_nil)))) (pw_or1 (pt_not (pt_val (C8.pe_c c_asked hr (by omega) (by rfl) (pa_cons (pv 3) pa_nil)))))))
    (pss_one (ps_ret pe_bl))
  pss_nil)
(pss_cons (ps_for PassesOwn.never rfl (pi_list (C8.pe_c c_units hr (by omega) (by rfl) (pa_cons (pv 2) pa_nil))) (pg_name (i := 4) sc_law.nd rfl (.inl rfl))
    (pss_one (ps_if (pt_cmpR op_eq (C8.pe_c c_pick hr (by omega) (by rfl) (pa_cons (pv 1) (pa_cons pe_int pa_nil))) pe_int (nomark _))
        (pss_one (ps_dput hu (pv 2) (pe_tup (pa_cons pe_str (pa_cons (pv 4) pa_nil))) (pe_callB (call_max2D rfl) (by rfl) T.max (by decide +kernel) (pa_cons pe_int (pa_cons (pe_op op_sub (pe_dget hu (pv 2) (pe_tup (pa_cons pe_str (pa_cons (pv 4) pa_nil))) (fun _ _ => rfl)) (C8.pe_c c_pick hr (by omega) (by rfl) (pa_cons (pv 1) (pa_cons pe_int pa_nil)))) pa_nil))) rfl))
      pss_nil)))
(pss_one (ps_ret (C8.pe_c c_asked hr (by omega) (by rfl) (pa_cons (pv 2) pa_nil))))))))), ?_⟩
    walk_at "go"
    refine ⟨a, ns, 6506, rfl, ha, ln, by decide, by decide, fun H1 p g s1 np ng hP1 => ?_⟩
    walk_at "go"
    refine ⟨p, g, rfl, hP1, fun d1 k1 H2 hP2 e2 nd1 hd1 dk1 => ?_⟩
    walk_at "go"
    refine ⟨p, g, rfl, hP2, fun d2 k2 H3 hP3 e3 nd2 hd2 dk2 => ?_⟩
    walk_at "go"
    have t3 : LamX.Tabs TL H3 := ((hP1.soft e2).trans (hP2.soft e3)).tabs (hT.ext s1)
    have hd13 := e3.dT hP2 hd1
    refine ⟨d1, k1, rfl, t3, hd13, dk1, fun H4 e4 => ?_⟩
    walk_at "go"
    refine r_ite (fun z => nomatch z) (fun _ => ?_)
    walk_at "go"
    refine ⟨d2, k2, rfl, e4.tab t3, e4.dT hd2, dk2, fun H5 e5 => ?_⟩
    walk_at "go"
    refine r_ite (fun z => nomatch z) (fun _ => ?_)
    walk_at "go"
    have t5 := e5.tab (e4.tab t3)
    have hP5 := (hP3.keepEx e4).keepEx e5
    have hd15 := e5.dT (e4.dT hd13)
    refine ⟨d1, k1, rfl, hd15, dk1, fun ou ys H6 s6 nou hou pu hsu => ?_⟩
    have hP6 := hP5.keep s6
    have hd16 := s6 _ _ hd15
    have nop : ou ≠ p := fun z => hP5.np (by rw [← z]; exact nou)
    have nog : ou ≠ g := fun z => hP5.ng (by rw [← z]; exact nou)
    refine ⟨ou, rfl, ⟨_, SqL.of hou⟩, ?_⟩
    refine for_list (K := K) (a := ou) (xs := ys.map V.str) (fun i σ H' => ∃ (x4 : Option V) (kv : DT), σ = [some (.ref a), some (.ref p), some (.ref d1), some (.ref d2), x4] ∧ PoolAt H' p g ∧ H' d1 = some (.dT kv) ∧ DAt kv ∧ H' ou = some (.lst (ys.map V.str)) ∧ (∀ n ∈ ys, n ∈ ukeys kv) ∧ Soft H6 H')
      ⟨none, k1, rfl, hP6, hd16, dk1, hou, fun n hn => pu.mem_iff.mp hn, fun _ _ e _ _ => e⟩ (fun i σ H7 _ hW => ?_) (fun i z σ H7 hz hW => ?_) (fun σ H7 hW => ?_)
    · obtain ⟨_, _, _, _, _, _, z, _⟩ := hW
      exact SqL.of z
    · obtain ⟨x4, kv, rfl, hP7, hd7, dk7, hou7, hin, sf⟩ := hW
      obtain ⟨n, hn, rfl⟩ := List.mem_map.mp (List.mem_of_getElem? hz)
      obtain ⟨bi, hbi⟩ := (ukeys_val dk7).mp (hin n hn)
      obtain ⟨b0, _⟩ := dk7.be n bi hbi
      walk_at "go"
      refine ⟨p, g, 2, rfl, hP7, by decide, fun r8 H8 hP8 e8 r80 _ => ?_⟩
      have hd8 := e8.dT hP7 hd7
      have hou8 := e8 _ _ hou7 nop nog
      have sf8 := sf.trans (hP7.soft e8)
      walk_at "go"
      refine r_ite (fun _ => ?_) (fun _ => ?_)
      · walk_at "go"
        refine r_gk (i := 2) (j := 4) rfl rfl hd8 hbi fun H9 s9 => ?_
        have hP9 := hP8.keep s9
        have hd9 := s9 _ _ hd8
        walk_at "go"
        refine ⟨p, g, 5, rfl, hP9, by decide, fun ra Ha hPa ea ra0 _ => ?_⟩
        have hda := ea.dT hP9 hd9
        have houa := ea _ _ (s9 _ _ hou8) nop nog
        have sfa := (sf8.trans (Soft.of s9)).trans (hP9.soft ea)
        walk_at "go"
        refine r_putkey hda (by have := dk7.ln; omega) fun Hb hdb bb => ?_
        refine ⟨_, _, rfl, hPa.but1 hda bb, hdb, dk7.putB hbi ?_ ?_, bb _ _ houa (ne_of houa hda (fun z => nomatch z)), fun m hm => ?_, sfa.trans (Soft.but1 hda bb)⟩
        · split <;> omega
        · split <;> omega
        · exact ukeys_put dk7 (hin m hm)
      · walk_at "go"
        exact ⟨_, kv, rfl, hP8, hd8, dk7, hou8, hin, sf8⟩
    · obtain ⟨x4, kv, rfl, hP7, hd7, dk7, hou7, hin, sf⟩ := hW
      walk_at "go"
      exact ⟨d1, kv, rfl, sf.tabs (t5.ext s6), hd7, dk7, fun H8 _ => q H8⟩
end
end
section
open PySem PySem.Spec PyProof.Rows L2
/-- a def that the top has written, as K tells it -/
structure DefK (K : PySem.W.Frag) (x : Str) (st : Stmt) (cd : Value) (f : Addr) (fd : FuncData) : Prop where
  ex : ∃ (oc : Value) (od : Option Addr) (kV dc pm : Value) (an : Option Addr) (ct : Value) (sl : Array (Option Value)), fd = PySem.W.fnOf x x (defArgs st) (defBody st) (defScope st) .none kV dc pm an cd ct ∧ K.lookup f = some ⟨oc, od, .func fd, sl⟩
  ns : PySem.W.nsIn K mainGlobals x = some (some (.ref f))
  code : PySem.W.codeIn K cd x = true
  kp : PySem.W.keepIn K (.ref f) = true
theorem defK_mk {K : PySem.W.Frag} {x : Str} {st : Stmt} {cd : Value} {f : Addr} {oc : Value} {od : Option Addr} {kV dc pm : Value} {an : Option Addr} {ct : Value} {sl : Array (Option Value)} (a : PySem.W.nsIn K mainGlobals x = some (some (.ref f)))
    (l : K.lookup f = some ⟨oc, od, .func (PySem.W.fnOf x x (defArgs st) (defBody st) (defScope st) .none kV dc pm an cd ct), sl⟩) (c : PySem.W.codeIn K cd x = true) (k : PySem.W.keepIn K (.ref f) = true) : ∃ fd, DefK K x st cd f fd := ⟨_, ⟨oc, od, kV, dc, pm, an, ct, sl, rfl, l⟩, a, c, k⟩
section
variable {K : PySem.W.Frag} {x : Str} {st : Stmt} {cd : Value} {f : Addr} {fd : FuncData} {h : Heap} {mg : Str → Option Value} {ps : List Str}
theorem DefK.fn (d : DefK K x st cd f fd) : L2.Fun K x x st f fd := by
  obtain ⟨oc, od, kV, dc, pm, an, ct, sl, rfl, l⟩ := d.ex
  exact fun_mk l d.code d.kp
/-- how the arguments bind -/
def BindsP (x : Str) (st : Stmt) (ps : List Str) : Prop := ∀ (kV doc pm : Value) (an : Option Addr) (cdv ct : Value) (us : List Value), us.length = ps.length → bindArgs (PySem.W.fnOf x x (defArgs st) (defBody st) (defScope st) .none kV doc pm an cdv ct) ⟨us, []⟩ = pure (ps.zip us)
theorem DefK.at_ (d : DefK K x st cd f fd) (X : K.In h) (G : h.Ns mainGlobals mg) (hb : BindsP x st ps) : DefAt K mg x st ps := ⟨f, fd, d.fn, PySem.W.mg_of X G d.ns, d.fn.binds hb⟩
theorem DefK.atC {c : Addr} (d : DefK K x st (.ref c) f fd) (X : K.In h) (G : h.Ns mainGlobals mg) (hb : BindsP x st ps) : DefAtC K mg x st ps c := by
  have g := d.fn.binds hb
  obtain ⟨oc, od, kV, dc, pm, an, ct, sl, rfl, l⟩ := d.ex
  exact ⟨f, oc, od, kV, dc, pm, an, ct, sl, PySem.W.mg_of X G d.ns, d.kp, l, d.code, g⟩
theorem DefK.binds1 {z : Str} (d : DefK K x st cd f fd) (hb : BindsP x st [z]) : ∀ (s : Shared) (u : Value), BindsTo s fd ⟨[u], []⟩ [(z, u)] := by
  obtain ⟨oc, od, kV, dc, pm, an, ct, sl, rfl, l⟩ := d.ex
  exact fun s u => .of_eq (hb kV dc pm an cd ct [u] rfl)
end
theorem bp1 {x : Str} {st : Stmt} {a : Str} (h : ∀ (kV doc pm : Value) (an : Option Addr) (cdv ct u : Value), bindArgs (PySem.W.fnOf x x (defArgs st) (defBody st) (defScope st) .none kV doc pm an cdv ct) ⟨[u], []⟩ = pure [(a, u)]) : BindsP x st [a] := fun kV doc pm an cdv ct us hl => match us, hl with
  | [u], _ => h kV doc pm an cdv ct u
theorem bp2 {x : Str} {st : Stmt} {a b : Str} (h : ∀ (kV doc pm : Value) (an : Option Addr) (cdv ct u v : Value), bindArgs (PySem.W.fnOf x x (defArgs st) (defBody st) (defScope st) .none kV doc pm an cdv ct) ⟨[u, v], []⟩ = pure [(a, u), (b, v)]) : BindsP x st [a, b] := fun kV doc pm an cdv ct us hl => match us, hl with
  | [u, v], _ => h kV doc pm an cdv ct u v
theorem bp3 {x : Str} {st : Stmt} {a b c : Str} (h : ∀ (kV doc pm : Value) (an : Option Addr) (cdv ct u v y : Value), bindArgs (PySem.W.fnOf x x (defArgs st) (defBody st) (defScope st) .none kV doc pm an cdv ct) ⟨[u, v, y], []⟩ = pure [(a, u), (b, v), (c, y)]) : BindsP x st [a, b, c] := fun kV doc pm an cdv ct us hl => match us, hl with
  | [u, v, y], _ => h kV doc pm an cdv ct u v y
/-- the built-in names, as K tells them -/
structure TxtK (K : PySem.W.Frag) : Prop where
  len : PySem.W.nsIn K mainGlobals "len" = some none
  range : PySem.W.nsIn K mainGlobals "range" = some none
  min : PySem.W.nsIn K mainGlobals "min" = some none
  max : PySem.W.nsIn K mainGlobals "max" = some none
  abs : PySem.W.nsIn K mainGlobals "abs" = some none
  int : PySem.W.nsIn K mainGlobals "int" = some none
  bool : PySem.W.nsIn K mainGlobals "bool" = some none
  str : PySem.W.nsIn K mainGlobals "str" = some none
  tuple : PySem.W.nsIn K mainGlobals "tuple" = some none
  sorted : PySem.W.nsIn K mainGlobals "sorted" = some none
  isinstance : PySem.W.nsIn K mainGlobals "isinstance" = some none
theorem TxtK.to {K : PySem.W.Frag} {h : Heap} {mg : Str → Option Value} (t : TxtK K) (X : K.In h) (G : h.Ns mainGlobals mg) : Txt mg :=
  ⟨PySem.W.mg_none_of X G t.len, PySem.W.mg_none_of X G t.range, PySem.W.mg_none_of X G t.min, PySem.W.mg_none_of X G t.max, PySem.W.mg_none_of X G t.abs, PySem.W.mg_none_of X G t.int, PySem.W.mg_none_of X G t.bool, PySem.W.mg_none_of X G t.str,
    PySem.W.mg_none_of X G t.tuple, PySem.W.mg_none_of X G t.sorted, PySem.W.mg_none_of X G t.isinstance⟩
theorem all_mk {l : PySem.W.OpenLaw} {w : World} {K : PySem.W.Frag} {h : Heap} {mg : Str → Option Value} {fa c Pt : Addr} {ts : List Addr} (X : K.In h) (G : h.Ns mainGlobals mg) (hfa : mg "law" = some (.ref fa)) (hT : ∀ P ∈ ts, h.get? P = some (PySem.W.tabObj #[]))
    {f1 f2 f3 f4 f5 f6 f7 f8 f9 f10 f11 f12 f13 f14 : Addr} {cd1 cd3 cd4 cd5 cd6 cd7 cd8 cd9 cd10 cd11 cd12 cd13 cd14 : Value}
    (a1 : ∃ fd, DefK K "units_in" s_units_in cd1 f1 fd) (a2 : ∃ fd, DefK K "visits" s_visits (.ref c) f2 fd) (a3 : ∃ fd, DefK K "_law_pool" s_pool cd3 f3 fd) (a4 : ∃ fd, DefK K "_law_pick" s_pick cd4 f4 fd) (a5 : ∃ fd, DefK K "_law_one" s_one cd5 f5 fd) (a6 : ∃ fd, DefK K "_law_names" s_names cd6 f6 fd)
    (a7 : ∃ fd, DefK K "_law_spans" s_spans cd7 f7 fd) (a8 : ∃ fd, DefK K "_law_scene" s_scene cd8 f8 fd) (a9 : ∃ fd, DefK K "_law_units" s_units cd9 f9 fd) (a10 : ∃ fd, DefK K "_law_meet" s_meet cd10 f10 fd) (a11 : ∃ fd, DefK K "_law_seen" s_seen cd11 f11 fd)
    (a12 : ∃ fd, DefK K "_law_apart" s_apart cd12 f12 fd) (a13 : ∃ fd, DefK K "_law_asked" s_asked cd13 f13 fd) (a14 : ∃ fd, DefK K "law" s_law cd14 f14 fd) (z : TxtK K)
    (hd : PySem.W.codeHdIn K c Pt = true) (nP : K.lookup Pt = none) (hm : Pt ∈ ts) : LamX.LawAtS l w K L2.CX0 6 63 "script" mg fa h := by
  obtain ⟨_, d1⟩ := a1
  obtain ⟨_, d2⟩ := a2
  obtain ⟨_, d3⟩ := a3
  obtain ⟨_, d4⟩ := a4
  obtain ⟨_, d5⟩ := a5
  obtain ⟨_, d6⟩ := a6
  obtain ⟨_, d7⟩ := a7
  obtain ⟨_, d8⟩ := a8
  obtain ⟨_, d9⟩ := a9
  obtain ⟨_, d10⟩ := a10
  obtain ⟨_, d11⟩ := a11
  obtain ⟨_, d12⟩ := a12
  obtain ⟨_, d13⟩ := a13
  obtain ⟨fd, d14⟩ := a14
  have e := hfa.symm.trans (PySem.W.mg_of X G d14.ns)
  cases e
  have T := z.to X G
  have b14 : BindsP "law" s_law ["script"] := bp1 fun _ _ _ _ _ _ _ => rfl
  refine ⟨fd, [(c, Pt)], spLaw K [(Pt, lamQ)], fun p hp => ?_, fun p hp => ?_, fun p hp => ?_, d14.binds1 b14, fun H a ns hl _ hT' hS => ⟨a, ns, rfl, hS, hl, fun p hp => ?_, fun _ => rfl⟩, fun base _ _ hTB => ?_⟩
  · obtain rfl := List.mem_singleton.mp hp
    exact hT _ hm
  · obtain rfl := List.mem_singleton.mp hp
    exact nP
  · obtain rfl := List.mem_singleton.mp hp
    exact PySem.W.codeHd_of_K X hd
  · obtain rfl := List.mem_singleton.mp hp
    exact LamX.TabS.nil (hT' (c, Pt) (.head _))
  · have TB := hTB (c, Pt) (.head _)
    have pool := ok_pool (P := l.prog) (w := w) (base := base) (k := 0) (d3.at_ X G (bp2 fun _ _ _ _ _ _ _ _ => rfl)) T
    have pick := fun k => ok_pick (P := l.prog) (w := w) (base := base) (k := k) (d4.at_ X G (bp2 fun _ _ _ _ _ _ _ _ => rfl)) T
    have D5 := d5.at_ X G (ps := ["pool", "row"]) (bp2 fun _ _ _ _ _ _ _ _ => rfl)
    have D6 := d6.at_ X G (ps := ["pool", "many", "taken"]) (bp3 fun _ _ _ _ _ _ _ _ _ => rfl)
    have D7 := d7.at_ X G (ps := ["pool", "count"]) (bp2 fun _ _ _ _ _ _ _ _ => rfl)
    have D8 := d8.at_ X G (ps := ["pool"]) (bp1 fun _ _ _ _ _ _ _ => rfl)
    have D9 := d9.at_ X G (ps := ["at"]) (bp1 fun _ _ _ _ _ _ _ => rfl)
    have D10 := d10.at_ X G (ps := ["at", "u", "v"]) (bp3 fun _ _ _ _ _ _ _ _ _ => rfl)
    have D11 := d11.at_ X G (ps := ["at", "told"]) (bp2 fun _ _ _ _ _ _ _ _ => rfl)
    have D12 := d12.at_ X G (ps := ["at", "told"]) (bp2 fun _ _ _ _ _ _ _ _ => rfl)
    have D13 := d13.at_ X G (ps := ["at"]) (bp1 fun _ _ _ _ _ _ _ => rfl)
    have D1 := d1.at_ X G (ps := ["past"]) (bp1 fun _ _ _ _ _ _ _ => rfl)
    have D2 := d2.atC X G (ps := ["past"]) (bp1 fun _ _ _ _ _ _ _ => rfl)
    have one := ok_one (k := 1) D5 T (pick 0)
    have names := ok_names (k := 0) D6 T (pick 0) one
    have spans := ok_spans (k := 0) D7 T (pick 0) one
    have scene := ok_scene (k := 0) D8 T (pick 0) one names spans
    have units := fun k => ok_units (P := l.prog) (w := w) (base := base) (k := k) D9 T
    have meet := ok_meet (P := l.prog) (w := w) (base := base) (k := 1) D10
    have seen := ok_seen (k := 1) D11 T (units 1)
    have apart := ok_apart (k := 1) D12 T (units 1) meet
    have ui := ok_units_in (P := l.prog) (w := w) (base := base) (k := 0) D1 T
    have vis := ok_visits (k := 0) TB D2 T ui
    have asked := ok_asked (k := 1) D13 T (units 1) seen apart vis
    exact ok_law (k := 0) d14.fn T pool (pick 0) scene (units 0) asked
end
end Dg
open PySem PySem.W PyProof.Rows
local macro_rules | `(tactic| walk_at "dk") => `(tactic| (refine' Dg.defK_mk ?a ?l ?c ?k; (case a => k_is); (case l => k_is); (case c => k_is); (case k => k_is)))
set_option maxHeartbeats 0 in
theorem PySem.Challenge.cw_digstead_k65_visits_of_a_past_holds : PySem.Challenge.rw_digstead_k65_visits_of_a_past.Holds := by
  w_on; o_law; k_head; (case hw => w_witness2)
  k_fill
  refine LamX.walk_ofTs (l := PySem.Challenge.rw_digstead_k65_visits_of_a_past) (n := 63) (k := 6) (x := "script") (CX := fun _ => L2.CX0) rfl (by decide) rfl ⟨rfl, by decide, by decide⟩ (fun w h Y => PySem.W.km_in_of Y) ?F (fun _ _ _ _ _ h => h)
  case F =>
    intro w mg fa h Y KX G hmg
    refine' Dg.all_mk KX G hmg (PySem.W.km_tabs_of Y) ?a1 ?a2 ?a3 ?a4 ?a5 ?a6 ?a7 ?a8 ?a9 ?a10 ?a11 ?a12 ?a13 ?a14 ?z ?hd ?nP ?hm
    (case a1 => walk_at "dk"); (case a2 => walk_at "dk"); (case a3 => walk_at "dk"); (case a4 => walk_at "dk"); (case a5 => walk_at "dk"); (case a6 => walk_at "dk"); (case a7 => walk_at "dk"); (case a8 => walk_at "dk"); (case a9 => walk_at "dk"); (case a10 => walk_at "dk"); (case a11 => walk_at "dk"); (case a12 => walk_at "dk"); (case a13 => walk_at "dk"); (case a14 => walk_at "dk")
    (case z => exact ⟨by k_is, by k_is, by k_is, by k_is, by k_is, by k_is, by k_is, by k_is, by k_is, by k_is, by k_is⟩)
    (case hm => exact .head _)
    (case hd => kernel_rfl)
    (case nP => kernel_rfl)
