import PyProof.Rows.All
import Wide.All
import OpenK.AllK
import Wide.FinOn
import HandS.ForMost
import HandS.Wide
import HandS.Flow
import HandS.IsInst
import HandS.TupAny
import HandS.Conv
import HandS.Zip
import PySem.Challenge.RW_asktally_k10_settings_in_order
set_option Elab.async false
set_option maxRecDepth 100000
set_option maxHeartbeats 4000000
/-! rules by the values' kinds, and readings taken step by step -/
namespace SX
open PySem PySem.Spec PyProof.Rows L2
/-! ### rules whose reading looks at the values themselves -/
section
variable {X : Cx}
def xAdd (K : PySem.W.Frag) : R2 := fun x y H Q => match x, y with
  | .int i, .int j => Q (.int (i + j)) H
  | .str a, .str b => a.length + b.length ≤ sizeLine ∧ Q (.str (a ++ b)) H
  | .int i, .bl k => Q (.int (i + b2i k)) H
  | .ref a, .ref b => rCat (.ref a) (.ref b) H Q ∨ rCatA K (.ref a) (.ref b) H Q
  | _, _ => False
theorem op_xAdd : OpR X (binaryOp .Add) (xAdd X.K) := by
  intro pins s σ H x y v u Q I rx ry h
  cases x <;> cases y <;> first
    | exact False.elim h
    | exact op_add pins s σ H _ _ v u Q I rx ry ⟨_, _, rfl, rfl, h⟩
    | exact op_add_str pins s σ H _ _ v u Q I rx ry ⟨_, _, rfl, rfl, h.1, h.2⟩
    | exact op_add_ib pins s σ H _ _ v u Q I rx ry ⟨_, _, rfl, rfl, h⟩
    | exact (op_cat.or op_catA) pins s σ H _ _ v u Q I rx ry h
def xMul : R2 := fun x y H Q => match x, y with
  | .int i, .int j => (CMul i j ∨ CMulW i j) ∧ Q (.int (i * j)) H
  | .ref a, .int k => rRep (.ref a) (.int k) H Q
  | _, _ => False
theorem op_xMul : OpR X (binaryOp .Mult) xMul := by
  intro pins s σ H x y v u Q I rx ry h
  cases x <;> cases y <;> first
    | exact False.elim h
    | exact h.1.elim (fun c => op_mul pins s σ H _ _ v u Q I rx ry ⟨_, _, rfl, rfl, c, h.2⟩) (fun c => op_mulW pins s σ H _ _ v u Q I rx ry ⟨_, _, rfl, rfl, c, h.2⟩)
    | exact op_rep pins s σ H _ _ v u Q I rx ry h
def xEq (K : PySem.W.Frag) : R2 := fun x y H Q => match x, y with
  | .int i, .int j => Q (.bl (decide (i = j))) H
  | .str i, .str j => Q (.bl (decide (i = j))) H
  | .bl i, .bl j => Q (.bl (decide (i = j))) H
  | .ref a, .ref b => rEqD K (.ref a) (.ref b) H Q
  | x, y => scal x y = true ∧ Q (.bl (decide (x = y))) H
theorem op_xEq (hu : X.A.units + 64 < cLine) : OpR X (compareOp .Eq) (xEq X.K) := by
  intro pins s σ H x y v u Q I rx ry h
  have g : ∀ {p q : Prop} [Decidable p] [Decidable q], (p ↔ q) → Q (.bl (decide p)) H → Q (.bl (decide q)) H := fun e q => by
    rw [← decide_eq_decide.mpr e]; exact q
  cases x <;> cases y <;> first
    | exact op_eqD hu pins s σ H _ _ v u Q I rx ry h
    | exact op_eq pins s σ H _ _ v u Q I rx ry h
    | exact op_eq pins s σ H _ _ v u Q I rx ry ⟨rfl, g (by simp) h⟩
def xNe (K : PySem.W.Frag) : R2 := fun x y H Q => match x, y with
  | .int i, .int j => Q (.bl (!decide (i = j))) H
  | .str i, .str j => Q (.bl (!decide (i = j))) H
  | .bl i, .bl j => Q (.bl (!decide (i = j))) H
  | .ref a, .ref b => rNeD K (.ref a) (.ref b) H Q
  | x, y => scal x y = true ∧ Q (.bl (!decide (x = y))) H
theorem op_xNe (hu : X.A.units + 64 < cLine) : OpR X (compareOp .NotEq) (xNe X.K) := by
  intro pins s σ H x y v u Q I rx ry h
  have g : ∀ {p q : Prop} [Decidable p] [Decidable q], (p ↔ q) → Q (.bl (!decide p)) H → Q (.bl (!decide q)) H := fun e q => by
    rw [← decide_eq_decide.mpr e]; exact q
  cases x <;> cases y <;> first
    | exact op_neD hu pins s σ H _ _ v u Q I rx ry h
    | exact op_ne pins s σ H _ _ v u Q I rx ry h
    | exact op_ne pins s σ H _ _ v u Q I rx ry ⟨rfl, g (by simp) h⟩
def xIn (K : PySem.W.Frag) : R2 := fun x y H Q => match x, y with
  | .str c, .str z => ∃ n, c = ⟨#[n]⟩ ∧ Q (.bl (decide (n ∈ z.cps.toList))) H
  | x, y => rIn K false x y H Q
theorem op_xIn : OpR X (compareOp .In) (xIn X.K) := by
  intro pins s σ H x y v u Q I rx ry h
  cases x <;> cases y <;> first
    | exact op_in_seq pins s σ H _ _ v u Q I rx ry h
    | exact (by
        obtain ⟨n, e, q⟩ := h
        subst e
        exact op_in_sign pins s σ H _ _ v u Q I rx ry ⟨n, _, rfl, rfl, q⟩)
def xNotIn (K : PySem.W.Frag) : R2 := fun x y H Q => match x, y with
  | .str c, .str z => ∃ n, c = ⟨#[n]⟩ ∧ Q (.bl (!decide (n ∈ z.cps.toList))) H
  | x, y => rIn K true x y H Q
theorem op_xNotIn : OpR X (compareOp .NotIn) (xNotIn X.K) := by
  intro pins s σ H x y v u Q I rx ry h
  cases x <;> cases y <;> first
    | exact op_notIn_seq pins s σ H _ _ v u Q I rx ry h
    | exact (by
        obtain ⟨n, e, q⟩ := h
        subst e
        exact op_notIn_sign pins s σ H _ _ v u Q I rx ry ⟨n, _, rfl, rfl, q⟩)
/-- a[b] -/
def xIx (K : PySem.W.Frag) : R2 := fun x y H Q => match x, y with
  | .str z, .int i => z.length ≤ sizeLine ∧ ∃ c, atI z.cps.toList i = some c ∧ Q (.str ⟨#[c]⟩) H
  | .ref p, .int i => ∃ xs v, (SqL K H p xs ∨ SqT K H p xs) ∧ atI xs i = some v ∧ Q v H
  | _, _ => False
theorem ix_x : IxR X (xIx X.K) := by
  intro value slice pins s σ H x y v u Q I rx ry h hs
  cases x <;> cases y <;> first
    | exact False.elim h
    | exact (by
        obtain ⟨hz, c, e, q⟩ := h
        exact ix_str value slice pins s σ H _ _ v u Q I rx ry ⟨_, _, c, rfl, rfl, hz, e, q⟩ hs)
    | exact (by
        obtain ⟨xs, w, hq, e, q⟩ := h
        rcases hq with hq | hq
        · exact ix_list value slice pins s σ H _ _ v u Q I rx ry ⟨_, xs, _, w, rfl, rfl, hq, e, q⟩ hs
        · exact ix_tup value slice pins s σ H _ _ v u Q I rx ry ⟨_, xs, _, w, rfl, rfl, hq, e, q⟩ hs)
/-- len -/
def xLen (K : PySem.W.Frag) : List V → Hp → VK → Prop := fun vs H Q => match vs with
  | [.str y] => y.length ≤ sizeLine ∧ Q (.int y.length) H
  | [.ref p] => ∃ xs, (SqL K H p xs ∨ SqT K H p xs) ∧ Q (.int (xs.length : Int)) H
  | _ => False
theorem call_xLen : CallR X (.builtin "len") (xLen X.K) := by
  intro pins s σ H xs us Q I r h
  match xs, h with
  | [.str y], h => exact call_len_str pins s σ H _ us Q I r ⟨y, rfl, h.1, h.2⟩
  | [.ref p], ⟨ys, hq, q⟩ => exact call_len_seq pins s σ H _ us Q I r ⟨p, ys, rfl, hq, q⟩
end
/-! ### readings, step by step -/
section
variable {σ : L2.St} {H : Hp} {K : PySem.W.Frag} {ta tb te : TE} {t u : TS} {c c' : TT} {D : Ends} {Q : VK} {QB : Bool → Hp → Prop} {QA : List V → Hp → Prop} {v : V} {r : R2} {i : Nat}
theorem seq (q : t { D with nx := u D } σ H) : tSeq t u D σ H := q
theorem asg (q : te σ H fun x H1 => D.nx (σ.set i (some x)) H1) : tAsg te (gName i) D σ H := q
theorem ret (q : te σ H D.rt) : tRet te D σ H := q
theorem retN (q : D.rt .non H) : tRetN D σ H := q
theorem drop (q : te σ H fun _ H1 => D.nx σ H1) : tDrop te D σ H := q
theorem next (q : D.nx σ H) : tNext D σ H := q
theorem brk (q : D.bk σ H) : tBreak D σ H := q
theorem cnt (q : D.ct σ H) : tCont D σ H := q
theorem ifs (q : c σ H fun b H1 => if b = true then t D σ H1 else u D σ H1) : tIfS c t u D σ H := q
theorem var (h : σ[i]? = some (some v)) (q : Q v H) : tVar i σ H Q := ⟨v, h, q⟩
theorem cst (q : Q v H) : tC v σ H Q := q
theorem op (q : ta σ H fun x H1 => tb σ H1 fun y H2 => r x y H2 Q) : tOp r ta tb σ H Q := q
theorem un {r1 : V → Hp → VK → Prop} (q : ta σ H fun x H1 => r1 x H1 Q) : tUn r1 ta σ H Q := q
theorem nil (q : QA [] H) : tNil σ H QA := q
theorem cons {tr : TA} (q : ta σ H fun x H1 => tr σ H1 fun xs H2 => QA (x :: xs) H2) : tCons ta tr σ H QA := q
theorem cb {r2 : List V → Hp → VK → Prop} {tr : TA} (q : tr σ H fun vs H1 => r2 vs H1 Q) : tCB r2 tr σ H Q := q
theorem call {sp : Sp} {dvs : List V} {E : XK} {tr : TA} (q : tr σ H fun vs H1 => sp (vs ++ dvs) H1 Q E) : tCall sp dvs E tr σ H Q := q
theorem tst (q : te σ H fun x H' => ∃ k, x = .bl k ∧ QB k H') : tTest te σ H QB := q
theorem tstB (q : te σ H fun x H' => ∃ k, x = .bl k ∧ QB k H') : tB te σ H QB := q
theorem bl {b : Bool} {QP : Bool → Prop} (q : QP b) : ∃ k, V.bl b = .bl k ∧ QP k := ⟨b, rfl, q⟩
theorem and (q : c σ H fun b H1 => if b = true then c' σ H1 QB else QB false H1) : tAnd c c' σ H QB := q
theorem or (q : c σ H fun b H1 => if b = true then QB true H1 else c' σ H1 QB) : tOr c c' σ H QB := q
theorem not (q : c σ H fun b H1 => QB (!b) H1) : tNot c σ H QB := q
theorem andV (q : ta σ H fun x H1 => ∃ c, x = .bl c ∧ if c = true then tb σ H1 Q else Q (.bl false) H1) : tAndV ta tb σ H Q := q
theorem orV (q : ta σ H fun x H1 => ∃ c, x = .bl c ∧ if c = true then Q (.bl true) H1 else tb σ H1 Q) : tOrV ta tb σ H Q := q
theorem notV (q : ta σ H fun x H1 => ∃ c, x = .bl c ∧ Q (.bl (!c)) H1) : tNotV ta σ H Q := q
theorem ifE (q : c σ H fun b H1 => if b = true then ta σ H1 Q else tb σ H1 Q) : tIf c ta tb σ H Q := q
theorem chain {r' : R2} {tc : TE} (q : ta σ H fun x H1 => tb σ H1 fun y H2 => r x y H2 fun z H3 => ∃ k, z = .bl k ∧ (if k = true then tc σ H3 fun w' H4 => r' y w' H4 Q else Q (.bl false) H3)) : tChain r r' ta tb tc σ H Q := q
theorem tup {tr : TA} (q : tr σ H fun xs H1 => xs.length ≤ sizeLine ∧ ∀ p, H1 p = none → Q (.ref p) (upd H1 p (.tup xs))) : tTup tr σ H Q := q
theorem lst {tr : TA} (q : tr σ H fun xs H1 => xs.length ≤ sizeLine ∧ ∀ p, H1 p = none → Q (.ref p) (upd H1 p (.lst xs))) : tLst tr σ H Q := q
theorem bm {T : String} {r3 : V → List V → Hp → VK → Prop} {tr : TA} (q : ta σ H fun x H1 => tyV K T x H1 ∧ tr σ H1 fun xs H2 => r3 x xs H2 Q) : tBM K T r3 ta tr σ H Q := q
theorem bm0 {T : String} {r3 : V → List V → Hp → VK → Prop} (q : ta σ H fun x H1 => tyV K T x H1 ∧ r3 x [] H1 Q) : tBM0 K T r3 ta σ H Q := q
theorem m0 {r3 : V → List V → Hp → VK → Prop} (q : ta σ H fun x H1 => (∃ a, x = .str a) ∧ r3 x [] H1 Q) : tM0 r3 ta σ H Q := q
theorem m1 {r3 : V → List V → Hp → VK → Prop} (q : ta σ H fun x H1 => (∃ a, x = .str a) ∧ tb σ H1 fun y H2 => r3 x [y] H2 Q) : tM1 r3 ta tb σ H Q := q
theorem sl {r3 : V → Option Int → Option Int → Hp → VK → Prop} {tl th : TO} (q : te σ H fun x H1 => tl σ H1 fun l H2 => th σ H2 fun u H3 => r3 x l u H3 Q) : tSl r3 te tl th σ H Q := q
theorem noPart {QO : Option Int → Hp → Prop} (q : QO none H) : tNoPart σ H QO := q
theorem part {QO : Option Int → Hp → Prop} (q : te σ H fun x H1 => ∃ i, x = .int i ∧ QO (some i) H1) : tPart te σ H QO := q
theorem int1 {QI : Int → Prop} {n : Int} (q : QI n) : ∃ i, V.int n = .int i ∧ QI i := ⟨n, rfl, q⟩
theorem int2 {QI : Int → Int → Prop} {n m : Int} (q : QI n m) : ∃ i j, V.int n = .int i ∧ V.int m = .int j ∧ QI i j := ⟨n, m, rfl, rfl, q⟩
theorem add_int {n m : Int} (q : Q (.int (n + m)) H) : xAdd K (.int n) (.int m) H Q := q
theorem add_str {a b : Str} (h : a.length + b.length ≤ sizeLine) (q : Q (.str (a ++ b)) H) : xAdd K (.str a) (.str b) H Q := ⟨h, q⟩
theorem eq_int {n m : Int} (q : Q (.bl (decide (n = m))) H) : xEq K (.int n) (.int m) H Q := q
theorem eq_str {n m : Str} (q : Q (.bl (decide (n = m))) H) : xEq K (.str n) (.str m) H Q := q
theorem eq_bl {n m : Bool} (q : Q (.bl (decide (n = m))) H) : xEq K (.bl n) (.bl m) H Q := q
theorem ne_int {n m : Int} (q : Q (.bl (!decide (n = m))) H) : xNe K (.int n) (.int m) H Q := q
theorem ne_str {n m : Str} (q : Q (.bl (!decide (n = m))) H) : xNe K (.str n) (.str m) H Q := q
theorem ne_bl {n m : Bool} (q : Q (.bl (!decide (n = m))) H) : xNe K (.bl n) (.bl m) H Q := q
theorem i0 {g : Int → Int → V} {n m : Int} (q : Q (g n m) H) : rI0 g (.int n) (.int m) H Q := ⟨n, m, rfl, rfl, q⟩
theorem iC {C : Int → Int → Prop} {g : Int → Int → V} {n m : Int} (h : C n m) (q : Q (g n m) H) : rI C g (.int n) (.int m) H Q := ⟨n, m, rfl, rfl, h, q⟩
theorem mul_int {n m : Int} (h : CMul n m ∨ CMulW n m) (q : Q (.int (n * m)) H) : xMul (.int n) (.int m) H Q := ⟨h, q⟩
theorem len_l {p : Addr} {xs : List V} (h : SqL K H p xs) (q : Q (.int (xs.length : Int)) H) : xLen K [.ref p] H Q := ⟨xs, .inl h, q⟩
theorem len_t {p : Addr} {xs : List V} (h : SqT K H p xs) (q : Q (.int (xs.length : Int)) H) : xLen K [.ref p] H Q := ⟨xs, .inr h, q⟩
theorem len_s {y : Str} (h : y.length ≤ sizeLine) (q : Q (.int (y.length : Int)) H) : xLen K [.str y] H Q := ⟨h, q⟩
theorem ix_l {p : Addr} {n : Int} {xs : List V} {v : V} (h : SqL K H p xs) (e : atI xs n = some v) (q : Q v H) : xIx K (.ref p) (.int n) H Q := ⟨xs, v, .inl h, e, q⟩
theorem ix_t {p : Addr} {n : Int} {xs : List V} {v : V} (h : SqT K H p xs) (e : atI xs n = some v) (q : Q v H) : xIx K (.ref p) (.int n) H Q := ⟨xs, v, .inr h, e, q⟩
end
section
variable {σ : L2.St} {H : Hp} {Q : VK} {n m : Int} {QH : Hp → Prop} {D : Ends}
theorem modI (h : 0 < m) (q : Q (.int (n % m)) H) : rI (fun _ j => 0 < j) (fun i j => .int (i % j)) (.int n) (.int m) H Q := ⟨n, m, rfl, rfl, h, q⟩
theorem divI (h : 0 < m ∧ m < 1152921504606846976) (q : Q (.int (n / m)) H) : rI CDivW (fun i j => .int (i / j)) (.int n) (.int m) H Q :=
  ⟨n, m, rfl, rfl, wide_div (b := 60) h.1 (by have := h.2; have := h.1; omega) (by decide) (by decide), q⟩
theorem mulL (h : -18446744073709551616 < n ∧ n < 18446744073709551616) (q : Q (.int (n * m)) H) : xMul (.int n) (.int m) H Q := ⟨.inl (.inl h), q⟩
theorem mulR (h : -18446744073709551616 < m ∧ m < 18446744073709551616) (q : Q (.int (n * m)) H) : xMul (.int n) (.int m) H Q := ⟨.inl (.inr h), q⟩
theorem powI (h : 0 ≤ m ∧ m ≤ 1000000 ∧ n.natAbs < 2 ^ 64) (q : Q (.int (n ^ m.toNat)) H) : rI CPow (fun i j => .int (i ^ j.toNat)) (.int n) (.int m) H Q := ⟨n, m, rfl, rfl, h, q⟩
theorem setL {p : Addr} {xs : List V} {j : Nat} {v : V} (h : H p = some (.lst xs)) (e : ixN xs.length n = some j) (q : QH (upd H p (.lst (xs.set j v)))) : rSetL (.ref p) (.int n) v H QH := ⟨p, xs, n, j, rfl, rfl, h, e, q⟩
theorem gsub {ta tb : TE} {ts : TSet} {v : V} {QS : L2.St → Hp → Prop} (q : ta σ H fun o H1 => tb σ H1 fun i H2 => ts o i v H2 fun H3 => QS σ H3) : gSub ta tb ts v σ H QS := q
theorem gname {i : Nat} {v : V} {QS : L2.St → Hp → Prop} (q : QS (σ.set i (some v)) H) : gName i v σ H QS := q
theorem asgG {te : TE} {g : TG} (q : te σ H fun x H1 => g x σ H1 D.nx) : tAsg te g D σ H := q
theorem par {i j : Nat} {ta : TA} (q : ta σ H fun vs H1 => ∃ v w, vs = [v, w] ∧ D.nx ((σ.set i (some v)).set j (some w)) H1) : tPar i j ta D σ H := q
theorem par2 {x y : V} {N : V → V → Prop} (q : N x y) : ∃ v w, [x, y] = [v, w] ∧ N v w := ⟨x, y, rfl, q⟩
theorem nxM {A B C E} (q : A σ H) : Ends.nx ⟨A, B, C, E⟩ σ H := q
theorem rtM {A B C E} {v : V} (q : B v H) : Ends.rt ⟨A, B, C, E⟩ v H := q
theorem bkM {A B C E} (q : C σ H) : Ends.bk ⟨A, B, C, E⟩ σ H := q
theorem ctM {A B C E} (q : E σ H) : Ends.ct ⟨A, B, C, E⟩ σ H := q
theorem aug {i : Nat} {te : TE} {ti : TIp} {v : V} (h : σ[i]? = some (some v)) (q : te σ H fun y H1 => ti v y H1 fun z H2 => D.nx (σ.set i (some z)) H2) : tAug i te ti D σ H := ⟨v, h, q⟩
theorem ipi {f : Int → Int → Int} (q : Q (.int (f n m)) H) : ipI f (.int n) (.int m) H Q := ⟨n, m, rfl, rfl, q⟩
theorem isiV {K : PySem.W.Frag} {x : V} {c : String} {t : Value} {b : Bool} (ty : TyX K H x t) (k : PySem.W.kitOne K t (.type c) = some b) (q : Q (.bl b) H) : rIsi K [x, .ty c] H Q := ⟨x, .ty c, t, .type c, b, rfl, .ty c, ty, k, q⟩
theorem isi_int_int {K : PySem.W.Frag} (q : Q (.bl true) H) : rIsi K [.int n, .ty "int"] H Q := isiV (.base (.int n)) (kit_ty (a := "int") (b := "int") (by decide +kernel)) q
theorem isi_int_bool {K : PySem.W.Frag} (q : Q (.bl false) H) : rIsi K [.int n, .ty "bool"] H Q := isiV (.base (.int n)) (kit_ty (a := "int") (b := "bool") (by decide +kernel)) q
theorem isi_bl_bool {K : PySem.W.Frag} {b : Bool} (q : Q (.bl true) H) : rIsi K [.bl b, .ty "bool"] H Q := isiV (.base (.bl b)) (kit_ty (a := "bool") (b := "bool") (by decide +kernel)) q
theorem isi_lst_list {K : PySem.W.Frag} {a : Addr} {xs : List V} (h : H a = some (.lst xs)) (q : Q (.bl true) H) : rIsi K [.ref a, .ty "list"] H Q := isiV (.base (.lst h)) (kit_ty (a := "list") (b := "list") (by decide +kernel)) q
theorem isi_tup_tuple {K : PySem.W.Frag} {a : Addr} {xs : List V} (h : H a = some (.tup xs)) (q : Q (.bl true) H) : rIsi K [.ref a, .ty "tuple"] H Q := isiV (.base (.tup h)) (kit_ty (a := "tuple") (b := "tuple") (by decide +kernel)) q
theorem max2 {i j : Int} {QP : Int → Int → Prop} (q : QP i j) : ∃ a b, [V.int i, V.int j] = [.int a, .int b] ∧ QP a b := ⟨i, j, rfl, q⟩
theorem rng1 {QP : Int → Prop} (h : -(2 ^ 62) ≤ n ∧ n < 2 ^ 62) (q : QP n) : ∃ j : Int, [V.int n] = [.int j] ∧ -(2 ^ 62) ≤ j ∧ j < 2 ^ 62 ∧ QP j := ⟨n, rfl, h.1, h.2, q⟩
theorem rng2 {QP : Int → Int → Prop} (h : -(2 ^ 62) ≤ n ∧ n < 2 ^ 62 ∧ -(2 ^ 62) ≤ m ∧ m < 2 ^ 62) (q : QP n m) : ∃ i j : Int, [V.int n, V.int m] = [.int i, .int j] ∧ (-(2 ^ 62) ≤ i ∧ i < 2 ^ 62 ∧ -(2 ^ 62) ≤ j ∧ j < 2 ^ 62) ∧ QP i j := ⟨n, m, rfl, h, q⟩
theorem gtup {K : PySem.W.Frag} {t : TGs} {p : Addr} {xs : List V} {k : Nat} {QS : L2.St → Hp → Prop} (h : SqT K H p xs) (e : xs.length = k) (q : t xs σ H QS) : gTup K k t (.ref p) σ H QS := ⟨p, xs, rfl, h, e, q⟩
theorem gcons {t : TG} {u : TGs} {v : V} {r : List V} {QS : L2.St → Hp → Prop} (q : t v σ H fun σ' H' => u r σ' H' QS) : gCons t u (v :: r) σ H QS := ⟨v, r, rfl, q⟩
theorem gnil {QS : L2.St → Hp → Prop} (q : QS σ H) : gNil [] σ H QS := ⟨rfl, q⟩
theorem forI {wi : TI} {g : TG} {tb : TS} (q : wi σ H fun J H1 => ∃ W : Nat → Nat → L2.St → Hp → Prop, (∃ m, W 0 m σ H1) ∧ ∀ i m σ H, W i m σ H →
  (J.stop i H ∧ D.nx σ H) ∨ (J.go i H ∧ ∃ N : L2.St → Hp → Prop, (∀ σ' H', N σ' H' → ∃ m', m' < m ∧ W (i + 1) m' σ' H') ∧ ∀ x H', J.yld i H x H' → g x σ H' fun σ2 H2 => tb { D with nx := N, ct := N, bk := D.nx } σ2 H2)) : tFor wi g tb D σ H := q
theorem irng1 {ta : TA} {R : It → Hp → Prop} (q : ta σ H fun vs H1 => ∃ j : Int, vs = [.int j] ∧ -(2 ^ 62) ≤ j ∧ j < 2 ^ 62 ∧ R (Itr 0 j.toNat) H1) : iRng1 ta σ H R := q
theorem irng2 {ta : TA} {R : It → Hp → Prop} (q : ta σ H fun vs H1 => ∃ i j : Int, vs = [.int i, .int j] ∧ (-(2 ^ 62) ≤ i ∧ i < 2 ^ 62 ∧ -(2 ^ 62) ≤ j ∧ j < 2 ^ 62) ∧ R (Itr i (j - i).toNat) H1) : iRng2 ta σ H R := q
theorem ilst {K : PySem.W.Frag} {te : TE} {R : It → Hp → Prop} (q : te σ H fun x H1 => ∃ a, x = .ref a ∧ (∃ xs, SqL K H1 a xs) ∧ R (Itl K a) H1) : iList K te σ H R := q
/-- while: a word and a measure; behind a test that holds: ⟨_, fun _ _ x => x, ?_⟩ -/
theorem whl {c : TT} {tb : TS} (Pv : L2.St → Hp → Prop) (mu : L2.St → Hp → Nat) (h0 : Pv σ H)
    (hs : ∀ σ H, Pv σ H → c σ H fun b H1 => if b = true then ∃ N : L2.St → Hp → Prop, (∀ σ' H', N σ' H' → Pv σ' H' ∧ mu σ' H' < mu σ H) ∧ tb { D with nx := N, ct := N, bk := D.nx } σ H1 else D.nx σ H1) : tWhile c tb D σ H := by
  refine ⟨fun m σ H => ∀ k, m = k → (m = mu σ H ∧ Pv σ H), ⟨_, fun _ _ => ⟨rfl, h0⟩⟩, ?_⟩
  intro m σ H w
  obtain ⟨e, p⟩ := w m rfl
  subst e
  have e : (fun (b : Bool) (H1 : Hp) => if b = true then ∃ N : L2.St → Hp → Prop, (∀ σ' H', N σ' H' → Pv σ' H' ∧ mu σ' H' < mu σ H) ∧ tb { D with nx := N, ct := N, bk := D.nx } σ H1 else D.nx σ H1)
      = (fun (b : Bool) (H1 : Hp) => if b = true then ∃ N : L2.St → Hp → Prop, (∀ σ' H', N σ' H' → ∃ m', m' < mu σ H ∧ ∀ k, m' = k → (m' = mu σ' H' ∧ Pv σ' H')) ∧ tb { D with nx := N, ct := N, bk := D.nx } σ H1 else D.nx σ H1) := by
    funext b H1
    have e2 : (∃ N : L2.St → Hp → Prop, (∀ σ' H', N σ' H' → Pv σ' H' ∧ mu σ' H' < mu σ H) ∧ tb { D with nx := N, ct := N, bk := D.nx } σ H1)
        = (∃ N : L2.St → Hp → Prop, (∀ σ' H', N σ' H' → ∃ m', m' < mu σ H ∧ ∀ k, m' = k → (m' = mu σ' H' ∧ Pv σ' H')) ∧ tb { D with nx := N, ct := N, bk := D.nx } σ H1) := by
      apply propext
      constructor
      · rintro ⟨N, h, q⟩
        exact ⟨N, fun σ' H' n => ⟨mu σ' H', (h σ' H' n).2, fun _ _ => ⟨rfl, (h σ' H' n).1⟩⟩, q⟩
      · rintro ⟨N, h, q⟩
        refine ⟨N, fun σ' H' n => ?_, q⟩
        obtain ⟨m', hm, w'⟩ := h σ' H' n
        obtain ⟨e', p'⟩ := w' m' rfl
        exact ⟨p', by rw [← e']; exact hm⟩
    rw [e2]
  have h := hs σ H p
  rw [e] at h
  exact h
end
theorem ifD {p A B : Prop} [Decidable p] (h1 : p → A) (h2 : ¬ p → B) : if decide p = true then A else B := by
  by_cases h : p
  · rw [if_pos (decide_eq_true h)]; exact h1 h
  · rw [if_neg (by simpa using h)]; exact h2 h
theorem ifN {p A B : Prop} [Decidable p] (h1 : ¬ p → A) (h2 : p → B) : if (!decide p) = true then A else B := by
  by_cases h : p
  · rw [if_neg (by simpa using h)]; exact h2 h
  · rw [if_pos (by simpa using h)]; exact h1 h
theorem ifP {p A B : Prop} [Decidable p] (h : p) (q : A) : if decide p = true then A else B := by
  rw [if_pos (decide_eq_true h)]; exact q
theorem ifM {p A B : Prop} [Decidable p] (h : ¬ p) (q : B) : if decide p = true then A else B := by
  rw [if_neg (by simpa using h)]; exact q
theorem ifNP {p A B : Prop} [Decidable p] (h : p) (q : B) : if (!decide p) = true then A else B := by
  rw [if_neg (by simpa using h)]; exact q
theorem ifNM {p A B : Prop} [Decidable p] (h : ¬ p) (q : A) : if (!decide p) = true then A else B := by
  rw [if_pos (by simpa using h)]; exact q
theorem ifNT {A B : Prop} (q : B) : if (!true) = true then A else B := q
theorem ifNF {A B : Prop} (q : A) : if (!false) = true then A else B := by
  show if true = true then A else B
  rw [if_pos rfl]; exact q
end SX

set_option Elab.async false
set_option maxRecDepth 100000
set_option maxHeartbeats 4000000
/-! what stays; feeds; tuples; loops -/
namespace SX
open PySem PySem.Spec PyProof.Rows L2
/-! ### what stays -/
structure Kp (S : List Addr) (H H' : Hp) : Prop where
  keep : ∀ b o, b ∉ S → H b = some o → H' b = some o
  tups : ∀ b xs, H b = some (.tup xs) → H' b = some (.tup xs)
  frzs : ∀ b o u, H b = some (.frz o u) → H' b = some (.frz o u)
theorem Kp.refl {S : List Addr} (H : Hp) : Kp S H H := ⟨fun _ _ _ h => h, fun _ _ h => h, fun _ _ _ h => h⟩
theorem Kp.trans {S : List Addr} {H H1 H2 : Hp} (a : Kp S H H1) (b : Kp S H1 H2) : Kp S H H2 :=
  ⟨fun x o n h => b.keep x o n (a.keep x o n h), fun x o h => b.tups x o (a.tups x o h), fun x o u h => b.frzs x o u (a.frzs x o u h)⟩
theorem Kp.wide {S T : List Addr} {H H' : Hp} (a : Kp S H H') (h : ∀ x ∈ S, x ∈ T) : Kp T H H' := ⟨fun x o n e => a.keep x o (fun z => n (h x z)) e, a.tups, a.frzs⟩
theorem Kp.nil {T : List Addr} {H H' : Hp} (a : Kp [] H H') : Kp T H H' := a.wide fun _ h => absurd h (by simp)
theorem Kp.new {S : List Addr} {H : Hp} {p : Addr} {o : HO} (h : H p = none) : Kp S H (upd H p o) :=
  ⟨fun b u _ e => by rw [upd_ne (ne_of_none e h)]; exact e, fun b u e => by rw [upd_ne (ne_of_none e h)]; exact e, fun b o u e => by rw [upd_ne (ne_of_none e h)]; exact e⟩
theorem Kp.set {S : List Addr} {H : Hp} {p : Addr} {xs : List V} {o : HO} (h : H p = some (.lst xs)) (hp : p ∈ S) : Kp S H (upd H p o) :=
  ⟨fun b u n e => by rw [upd_ne (fun z => n (by rw [z]; exact hp))]; exact e, fun b u e => by rw [upd_ne (ne_of e h (by intro q; cases q))]; exact e, fun b o u e => by rw [upd_ne (ne_of e h (by intro q; cases q))]; exact e⟩
/-- an object that was not there at H0 may change -/
theorem Kp.mut {S : List Addr} {H0 H : Hp} {p : Addr} {o : HO} (k : Kp S H0 H) (h : H0 p = none) : Kp S H0 (upd H p o) :=
  ⟨fun b u n e => by rw [upd_ne (ne_of_none e h)]; exact k.keep b u n e, fun b u e => by rw [upd_ne (ne_of_none e h)]; exact k.tups b u e, fun b o u e => by rw [upd_ne (ne_of_none e h)]; exact k.frzs b o u e⟩
/-- what may change within a call is new ahead of it -/
theorem Kp.drop {S : List Addr} {p : Addr} {H0 H H' : Hp} (k : Kp S H0 H) (k' : Kp (p :: S) H H') (h : H0 p = none) : Kp S H0 H' :=
  ⟨fun b u n e => k'.keep b u (by intro z; rcases List.mem_cons.mp z with z | z; · exact ne_of_none e h z
                                  · exact n z) (k.keep b u n e), fun b u e => k'.tups b u (k.tups b u e), fun b o u e => k'.frzs b o u (k.frzs b o u e)⟩
theorem Kp.free {S : List Addr} {H H' : Hp} (k : Kp S H H') {p : Addr} (hp : p ∉ S) (h : H' p = none) : H p = none := by
  cases e : H p with
  | none => rfl
  | some o => rw [k.keep p o hp e] at h; cases h
theorem Kp.sqL {K : PySem.W.Frag} {S : List Addr} {H H' : Hp} {a : Addr} {xs : List V} (k : Kp S H H') (ha : a ∉ S) (h : SqL K H a xs) : SqL K H' a xs := by
  rcases h with (h | ⟨o, h⟩) | h
  · exact .inl (.inl (k.keep _ _ ha h))
  · exact .inl (.inr ⟨o, k.frzs _ _ _ h⟩)
  · exact .inr h
theorem Kp.sqT {K : PySem.W.Frag} {S : List Addr} {H H' : Hp} {a : Addr} {xs : List V} (k : Kp S H H') (h : SqT K H a xs) : SqT K H' a xs := by
  rcases h with (h | ⟨o, h⟩) | h
  · exact .inl (.inl (k.tups _ _ h))
  · exact .inl (.inr ⟨o, k.frzs _ _ _ h⟩)
  · exact .inr h
/-- the script: a list that no def writes -/
def Scr (K : PySem.W.Frag) (H : Hp) (a : Addr) (ns : List Int) : Prop :=
  (∃ o, H a = some (.frz o (.lst (ns.map V.int)))) ∨ (H a = none ∧ ∃ (o : Obj) (its : Array Value) (n : Nat), K.lookup a = some o ∧ o.cls = .type "list" ∧ o.dict = none ∧ o.data = .seq its n ∧ its.size ≤ sizeLine ∧ Vals (ns.map V.int) its.toList)
/-! ### a feed: two numbers in a list -/
def FeedAt (H : Hp) (p : Addr) : Prop := ∃ o s : Int, H p = some (.lst [.int o, .int s]) ∧ 0 ≤ o ∧ 0 ≤ s ∧ s < 4294967296
theorem take_bound {x m : Int} (h : 0 < m) : 0 ≤ x % m ∧ x % m < m := ⟨Int.emod_nonneg _ (by omega), Int.emod_lt_of_pos _ h⟩
theorem pow18 : (10 : Int) ^ (18 : Int).toNat = 1000000000000000000 := by decide
def spFeed (K : PySem.W.Frag) : Sp := fun vs H Q _ => ∃ (a : Addr) (ns : List Int) (k : Int), vs = [.ref a, .int k] ∧ SqL K H a (ns.map V.int) ∧ ns.length ≤ 63 ∧ 0 ≤ k ∧ k ≤ 1000 ∧
  ∀ p H', H p = none → Kp [] H H' → FeedAt H' p → Q (.ref p) H'
def spTake : Sp := fun vs H Q _ => ∃ (p : Addr) (m : Int), vs = [.ref p, .int m] ∧ FeedAt H p ∧ 0 < m ∧ m < 1152921504606846976 ∧
  ∀ d H', 0 ≤ d → d < m → Kp [p] H H' → FeedAt H' p → Q (.int d) H'
theorem at_int {ns : List Int} {k : Int} (h0 : 0 ≤ k) (h : k < (ns.length : Int)) : ∃ v : Int, atI (ns.map V.int) k = some (.int v) := by
  have hk : k.toNat < ns.length := by omega
  have ek : k = ((k.toNat : Nat) : Int) := by omega
  obtain ⟨v, hv⟩ : ∃ v, ns[k.toNat]? = some v := ⟨_, List.getElem?_eq_getElem hk⟩
  refine ⟨v, ?_⟩
  rw [ek]
  exact atI_nat (by rw [List.getElem?_map, hv] <;> rfl)
theorem len_map {ns : List Int} : (((ns.map V.int).length : Nat) : Int) = (ns.length : Int) := by rw [List.length_map]

/-! ### more steps -/
section
variable {σ : L2.St} {H : Hp} {Q : VK} {n m : Int} {QH : Hp → Prop} {D : Ends} {K : PySem.W.Frag}
theorem shrI (h : 0 ≤ m) (q : Q (.int (n / 2 ^ m.toNat)) H) : rI (fun _ j => 0 ≤ j) (fun i j => .int (i / 2 ^ j.toNat)) (.int n) (.int m) H Q := ⟨n, m, rfl, rfl, h, q⟩
theorem shlI (h : 0 ≤ m ∧ m ≤ 1000000 ∧ n.natAbs < 2 ^ 64) (q : Q (.int (n * 2 ^ m.toNat)) H) : rI CPow (fun i j => .int (i * 2 ^ j.toNat)) (.int n) (.int m) H Q := ⟨n, m, rfl, rfl, h, q⟩
/-- tuple + tuple -/
theorem add_tup {a b : Addr} {xs ys : List V} (ha : SqT K H a xs) (hb : SqT K H b ys) (hz : xs.length + ys.length ≤ 1000000) (q : ∀ c H', Kp [] H H' → SqT K H' c (xs ++ ys) → Q (.ref c) H') : xAdd K (.ref a) (.ref b) H Q := by
  refine Or.inr ⟨a, b, xs, ys, rfl, rfl, ha, hb, Nat.le_trans hz (by decide), fun e => ?_, fun _ e => ?_, fun _ _ p hp => ?_⟩
  · subst e
    exact q b H (.refl H) hb
  · subst e
    refine q a H (.refl H) ?_
    rw [List.append_nil]
    exact ha
  · exact q p _ (.new hp) (SqT.of upd_same)
theorem isi_sqT {a : Addr} {xs : List V} (h : SqT K H a xs) (q : Q (.bl true) H) : rIsi K [.ref a, .ty "tuple"] H Q := by
  rcases h with (h | ⟨o, h⟩) | ⟨o, its, k, h1, h2, _⟩
  · exact isi_tup_tuple h q
  · exact isiV (.fTuple h) (kit_ty (a := "tuple") (b := "tuple") (by decide +kernel)) q
  · exact isiV (.kTuple h1 h2) (kit_ty (a := "tuple") (b := "tuple") (by decide +kernel)) q
theorem isi_sqT_int {a : Addr} {xs : List V} {c : String} (h : SqT K H a xs) (hk : kitB "tuple" c = some false) (q : Q (.bl false) H) : rIsi K [.ref a, .ty c] H Q := by
  rcases h with (h | ⟨o, h⟩) | ⟨o, its, k, h1, h2, _⟩
  · exact isiV (.base (.tup h)) (kit_ty (a := "tuple") (b := c) hk) q
  · exact isiV (.fTuple h) (kit_ty (a := "tuple") (b := c) hk) q
  · exact isiV (.kTuple h1 h2) (kit_ty (a := "tuple") (b := c) hk) q
theorem ienum {ta : TA} {R : It → Hp → Prop} (q : ta σ H fun vs H1 => ∃ a xs, vs = [.ref a] ∧ SqL K H1 a xs ∧ R (Ite K a) H1) : iEnum K ta σ H R := q
theorem itup {te : TE} {R : It → Hp → Prop} (q : te σ H fun x H1 => ∃ a, x = .ref a ∧ (∃ xs, SqT K H1 a xs) ∧ R (Itt K a) H1) : iTup K te σ H R := q
theorem istr {te : TE} {R : It → Hp → Prop} (q : te σ H fun v H1 => ∃ x, v = .str x ∧ R (Its x) H1) : iStr te σ H R := q
theorem lcI {wi : TI} {g : TG} {tt : TT} {te : TE} {vs : List Nat} (q : wi σ H fun J H1 => ∀ D, H1 D = none → ∃ W : Nat → Nat → Hp → Prop, (∃ m, W 0 m (upd H1 D (.lst []))) ∧ ∀ i m H, W i m H →
  (J.stop i H ∧ Q (.ref D) H) ∨ (J.go i H ∧ ∃ Nx : Hp → Prop, (∀ H', Nx H' → ∃ m', m' < m ∧ W (i + 1) m' H') ∧ ∀ x H', J.yld i H x H' → g x (wipe σ vs) H' fun σ2 H2 => wipe σ2 vs = wipe σ vs ∧ tt σ2 H2 fun b H3 =>
    if b = true then te σ2 H3 fun y H4 => ∃ acc, H4 D = some (.lst acc) ∧ acc.length < sizeLine ∧ Nx (upd H4 D (.lst (acc ++ [y]))) else Nx H3)) : tLc wi g tt te vs σ H Q := q
theorem yes {QB : Bool → Hp → Prop} (q : QB true H) : tYes σ H QB := q
/-- for i, x in enumerate(a list that stays) -/
theorem for_enum {a : Addr} {xs : List V} {g : TG} {tb : TS} (Pv : Nat → L2.St → Hp → Prop) (h0 : Pv 0 σ H) (hl : ∀ i σ H, i ≤ xs.length → Pv i σ H → SqL K H a xs)
    (hs : ∀ i x σ H, xs[i]? = some x → Pv i σ H → ∀ p, H p = none → g (.ref p) σ (upd H p (.tup [.int (i : Nat), x])) fun σ2 H2 => tb { D with nx := Pv (i + 1), ct := Pv (i + 1), bk := D.nx } σ2 H2) (hd : ∀ σ H, Pv xs.length σ H → D.nx σ H) :
    ∃ W : Nat → Nat → L2.St → Hp → Prop, (∃ m, W 0 m σ H) ∧ ∀ i m σ H, W i m σ H →
      ((Ite K a).stop i H ∧ D.nx σ H) ∨ ((Ite K a).go i H ∧ ∃ N : L2.St → Hp → Prop, (∀ σ' H', N σ' H' → ∃ m', m' < m ∧ W (i + 1) m' σ' H') ∧ ∀ x H', (Ite K a).yld i H x H' → g x σ H' fun σ2 H2 => tb { D with nx := N, ct := N, bk := D.nx } σ2 H2) := by
  refine ⟨fun i m σ H => m = xs.length - i ∧ i ≤ xs.length ∧ Pv i σ H, ⟨xs.length, by simp, Nat.zero_le _, h0⟩, ?_⟩
  rintro i m σ H ⟨rfl, hi, p⟩
  have q := hl i σ H hi p
  by_cases hlt : i < xs.length
  · refine .inr ⟨⟨xs, xs[i], q, by simp [hlt]⟩, Pv (i + 1), fun σ' H' p' => ⟨xs.length - (i + 1), by omega, rfl, hlt, p'⟩, fun x H' y => ?_⟩
    obtain ⟨T, z, e, hT, e2, y⟩ := y
    subst e e2
    exact hs i z σ _ (y xs q) p T hT
  · have e : i = xs.length := by omega
    subst e
    exact .inl ⟨⟨xs, q, Nat.le_refl _⟩, hd σ H p⟩
/-- for c in a text -/
theorem for_str {x : Str} {g : TG} {tb : TS} (Pv : Nat → L2.St → Hp → Prop) (h0 : Pv 0 σ H)
    (hs : ∀ (i : Nat) (c : Nat) σ H, x.cps.toList[i]? = some c → Pv i σ H → g (.str ⟨#[c]⟩) σ H fun σ2 H2 => tb { D with nx := Pv (i + 1), ct := Pv (i + 1), bk := D.nx } σ2 H2) (hd : ∀ σ H, Pv x.cps.size σ H → D.nx σ H) :
    ∃ W : Nat → Nat → L2.St → Hp → Prop, (∃ m, W 0 m σ H) ∧ ∀ i m σ H, W i m σ H →
      ((Its x).stop i H ∧ D.nx σ H) ∨ ((Its x).go i H ∧ ∃ N : L2.St → Hp → Prop, (∀ σ' H', N σ' H' → ∃ m', m' < m ∧ W (i + 1) m' σ' H') ∧ ∀ v H', (Its x).yld i H v H' → g v σ H' fun σ2 H2 => tb { D with nx := N, ct := N, bk := D.nx } σ2 H2) := by
  refine ⟨fun i m σ H => m = x.cps.size - i ∧ i ≤ x.cps.size ∧ Pv i σ H, ⟨x.cps.size, by simp, Nat.zero_le _, h0⟩, ?_⟩
  rintro i m σ H ⟨rfl, hi, p⟩
  by_cases hlt : i < x.cps.size
  · refine .inr ⟨hlt, Pv (i + 1), fun σ' H' p' => ⟨x.cps.size - (i + 1), by omega, rfl, hlt, p'⟩, fun v H' y => ?_⟩
    obtain ⟨e, c, hc, e2⟩ := y
    subst e e2
    exact hs i c σ _ (by rw [Array.getElem?_toList]; exact hc) p
  · have e : i = x.cps.size := by omega
    subst e
    exact .inl ⟨Nat.le_refl _, hd σ H p⟩
end
/-! ### data -/
theorem dp_ints {K : PySem.W.Frag} {H : Hp} : ∀ ns : List Int, DpAll K H (ns.map V.int) (ns.map PyData.int)
  | [] => .nil
  | n :: r => .cons (.int n) (dp_ints r)
theorem eqv_ints : ∀ ns ms : List Int, PyData.eqvAll (ns.map PyData.int) (ms.map PyData.int) = decide (ns = ms)
  | [], [] => by simp [PyData.eqvAll]
  | [], _ :: _ => by simp [PyData.eqvAll]
  | _ :: _, [] => by simp [PyData.eqvAll]
  | n :: r, m :: t => by
    simp only [List.map_cons, PyData.eqvAll, PyData.eqv, eqv_ints r t]
    by_cases h : n = m <;> by_cases h2 : r = t <;> simp [h, h2]
theorem canLay_ints : ∀ ns : List Int, PyData.canLayAll0 (ns.map PyData.int) = true
  | [] => by simp [PyData.canLayAll0]
  | n :: r => by simp [PyData.canLayAll0, PyData.canLay0, canLay_ints r]
theorem depth_ints : ∀ ns : List Int, PyData.depthAll (ns.map PyData.int) = 0
  | [] => by simp [PyData.depthAll]
  | n :: r => by simp [PyData.depthAll, PyData.depth, depth_ints r]
theorem shaped_ints (ns : List Int) : SeqAt.shaped (.tuple (ns.map PyData.int)) = true := by
  simp [SeqAt.shaped, PyData.canLay0, PyData.depth, canLay_ints, depth_ints]
section
variable {H : Hp} {Q : VK} {K : PySem.W.Frag}
theorem ne_tupI {a b : Addr} {ns ms : List Int} (ha : SqT K H a (ns.map V.int)) (hb : SqT K H b (ms.map V.int)) (q : Q (.bl (!decide (ns = ms))) H) : xNe K (.ref a) (.ref b) H Q :=
  ⟨_, _, .tup ha (dp_ints ns), .tup hb (dp_ints ms), shaped_ints ns, shaped_ints ms, by simp only [PyData.eqv, eqv_ints]; exact q⟩
theorem eq_tupI {a b : Addr} {ns ms : List Int} (ha : SqT K H a (ns.map V.int)) (hb : SqT K H b (ms.map V.int)) (q : Q (.bl (decide (ns = ms))) H) : xEq K (.ref a) (.ref b) H Q :=
  ⟨_, _, .tup ha (dp_ints ns), .tup hb (dp_ints ms), shaped_ints ns, shaped_ints ms, by simp only [PyData.eqv, eqv_ints]; exact q⟩
/-- a setting: a tuple of numbers; a list of such -/
def SetAt (K : PySem.W.Frag) (H : Hp) (v : V) (ns : List Int) : Prop := ∃ a, v = .ref a ∧ SqT K H a (ns.map V.int)
theorem SetAt.kp {S : List Addr} {H H' : Hp} {v : V} {ns : List Int} (k : Kp S H H') (h : SetAt K H v ns) : SetAt K H' v ns := by
  obtain ⟨a, e, h⟩ := h
  exact ⟨a, e, k.sqT h⟩
abbrev SetsAt (K : PySem.W.Frag) (H : Hp) : List V → List (List Int) → Prop := Paired (SetAt K H)
theorem SetsAt.kp {S : List Addr} {H H' : Hp} (k : Kp S H H') : ∀ {vs : List V} {ss : List (List Int)}, SetsAt K H vs ss → SetsAt K H' vs ss
  | _, _, .nil => .nil
  | _, _, .cons r t => .cons (r.kp k) (SetsAt.kp k t)
theorem Paired.app {α β : Type} {R : α → β → Prop} : ∀ {xs ys : List α} {us ws : List β}, Paired R xs us → Paired R ys ws → Paired R (xs ++ ys) (us ++ ws)
  | _, _, _, _, .nil, s => s
  | _, _, _, _, .cons r t, s => .cons r (Paired.app t s)
theorem Paired.at {α β : Type} {R : α → β → Prop} : ∀ {xs : List α} {us : List β} {i : Nat} {x : α}, Paired R xs us → xs[i]? = some x → ∃ u, us[i]? = some u ∧ R x u
  | _, _, _, _, .nil, e => by simp at e
  | _, _, 0, _, .cons r _, e => by simp at e; subst e; exact ⟨_, rfl, r⟩
  | _, _, i + 1, x, .cons _ t, e => by
    obtain ⟨u, h1, h2⟩ := Paired.at (i := i) (x := x) t (by simpa using e)
    exact ⟨u, by simpa using h1, h2⟩
end
/-- k by twos, n places -/
def bits (k : Nat) : Nat → List Int
  | 0 => []
  | n + 1 => ((k / 2 ^ n % 2 : Nat) : Int) :: bits k n
def settings (n : Nat) : List (List Int) := (List.range (2 ^ n)).map fun k => bits k n
theorem settings_step : ∀ n : Nat, n < 6 → (settings n).flatMap (fun s => [s ++ [0], s ++ [1]]) = settings (n + 1) := by
  have q : (List.range 6).all (fun n => decide ((settings n).flatMap (fun s => [s ++ [0], s ++ [1]]) = settings (n + 1))) = true := by decide +kernel
  intro n hn
  exact of_decide_eq_true (List.all_eq_true.mp q n (List.mem_range.mpr hn))
theorem settings_len (n : Nat) : (settings n).length = 2 ^ n := by unfold settings; rw [List.length_map, List.length_range]
theorem settings_at {n k : Nat} {s : List Int} (h : (settings n)[k]? = some s) : s = bits k n := by
  unfold settings at h
  rw [List.getElem?_map] at h
  by_cases hk : k < 2 ^ n
  · rw [List.getElem?_range hk] at h
    exact (Option.some.inj h).symm
  · rw [List.getElem?_eq_none (by rw [List.length_range]; omega)] at h
    cases h
theorem bits_len (k : Nat) : ∀ n, (bits k n).length = n
  | 0 => rfl
  | n + 1 => by rw [bits, List.length_cons, bits_len k n]
def spSettings (K : PySem.W.Frag) : Sp := fun vs H Q _ => ∃ n : Nat, vs = [.int (n : Int)] ∧ n ≤ 6 ∧ ∀ p ws H', Kp [] H H' → H p = none → H' p = some (.lst ws) → SetsAt K H' ws (settings n) → Q (.ref p) H'
end SX


set_option Elab.async false
set_option maxRecDepth 100000
set_option maxHeartbeats 4000000
namespace My
open PySem PySem.Spec PyProof.Rows L2 SX
abbrev topS (i : Nat) : Stmt := PySem.Challenge.pw_asktally_k10_settings_in_order.main.body.getD i (.Pass ⟨0, 0, 0, 0⟩)
abbrev s_all_settings : Stmt := topS 1
abbrev N_all_settings : List Str := ["n", "found", "k", "wider", "setting"]
theorem sc_all_settings : FnScope N_all_settings ["n"] (defScope s_all_settings) := ⟨rfl, rfl, rfl, by decide +kernel, rfl, by decide +kernel, by decide +kernel⟩
abbrev s__law_feed : Stmt := topS 3
abbrev N__law_feed : List Str := ["_law_script", "_law_k", "_law_cell", "_law_own"]
theorem sc__law_feed : FnScope N__law_feed ["_law_script", "_law_k"] (defScope s__law_feed) := ⟨rfl, rfl, rfl, by decide +kernel, rfl, by decide +kernel, by decide +kernel⟩
abbrev s__law_take : Stmt := topS 4
abbrev N__law_take : List Str := ["_law_feed_here", "_law_many", "_law_digit", "_law_one"]
theorem sc__law_take : FnScope N__law_take ["_law_feed_here", "_law_many"] (defScope s__law_take) := ⟨rfl, rfl, rfl, by decide +kernel, rfl, by decide +kernel, by decide +kernel⟩
abbrev s__law_by_twos : Stmt := topS 5
abbrev N__law_by_twos : List Str := ["_law_k", "_law_n", "_law_found", "_law_j"]
theorem sc__law_by_twos : FnScope N__law_by_twos ["_law_k", "_law_n"] (defScope s__law_by_twos) := ⟨rfl, rfl, rfl, by decide +kernel, rfl, by decide +kernel, by decide +kernel⟩
abbrev s__law_right : Stmt := topS 6
abbrev N__law_right : List Str := ["_law_found", "_law_n", "_law_k", "_law_setting", "_law_one"]
theorem sc__law_right : FnScope N__law_right ["_law_found", "_law_n"] (defScope s__law_right) := ⟨rfl, rfl, rfl, by decide +kernel, rfl, by decide +kernel, by decide +kernel⟩
abbrev s_law : Stmt := topS 7
abbrev N_law : List Str := ["_law_script", "_law_feed_here", "_law_n", "_law_other", "_law_found"]
theorem sc_law : FnScope N_law ["_law_script"] (defScope s_law) := ⟨rfl, rfl, rfl, by decide +kernel, rfl, by decide +kernel, by decide +kernel⟩
structure Tx (K : PySem.W.Frag) (mg : Str → Option Value) where
  a_all_settings : Addr
  d_all_settings : FuncData
  F_all_settings : Fun K "all_settings" "all_settings" s_all_settings a_all_settings d_all_settings
  m_all_settings : mg "all_settings" = some (.ref a_all_settings)
  B_all_settings : Binds K d_all_settings ["n"] []
  a__law_feed : Addr
  d__law_feed : FuncData
  F__law_feed : Fun K "_law_feed" "_law_feed" s__law_feed a__law_feed d__law_feed
  m__law_feed : mg "_law_feed" = some (.ref a__law_feed)
  B__law_feed : Binds K d__law_feed ["_law_script", "_law_k"] []
  a__law_take : Addr
  d__law_take : FuncData
  F__law_take : Fun K "_law_take" "_law_take" s__law_take a__law_take d__law_take
  m__law_take : mg "_law_take" = some (.ref a__law_take)
  B__law_take : Binds K d__law_take ["_law_feed_here", "_law_many"] []
  a__law_by_twos : Addr
  d__law_by_twos : FuncData
  F__law_by_twos : Fun K "_law_by_twos" "_law_by_twos" s__law_by_twos a__law_by_twos d__law_by_twos
  m__law_by_twos : mg "_law_by_twos" = some (.ref a__law_by_twos)
  B__law_by_twos : Binds K d__law_by_twos ["_law_k", "_law_n"] []
  a__law_right : Addr
  d__law_right : FuncData
  F__law_right : Fun K "_law_right" "_law_right" s__law_right a__law_right d__law_right
  m__law_right : mg "_law_right" = some (.ref a__law_right)
  B__law_right : Binds K d__law_right ["_law_found", "_law_n"] []
  a_law : Addr
  d_law : FuncData
  F_law : Fun K "law" "law" s_law a_law d_law
  m_law : mg "law" = some (.ref a_law)
  B_law : Binds K d_law ["_law_script"] []
  b_range : mg "range" = none
  b_len : mg "len" = none
  b_isinstance : mg "isinstance" = none
  b_list : mg "list" = none
  b_enumerate : mg "enumerate" = none
  b_tuple : mg "tuple" = none
  b_bool : mg "bool" = none
  b_int : mg "int" = none
local macro_rules | `(tactic| walk_at "sx1") => `(tactic| first
  | (with_reducible refine SX.seq ?_) | (with_reducible refine SX.asg ?_) | (with_reducible refine SX.ret ?_) | (with_reducible refine SX.retN ?_) | (with_reducible refine SX.drop ?_) | (with_reducible refine SX.next ?_) | (with_reducible refine SX.brk ?_) | (with_reducible refine SX.cnt ?_)
  | (with_reducible refine SX.nxM ?_) | (with_reducible refine SX.rtM ?_) | (with_reducible refine SX.bkM ?_) | (with_reducible refine SX.ctM ?_)
  | (with_reducible refine SX.ifs ?_) | (with_reducible refine SX.cst ?_) | (with_reducible refine SX.op ?_) | (with_reducible refine SX.un ?_) | (with_reducible refine SX.cons ?_) | (with_reducible refine SX.nil ?_)
  | ((with_reducible refine' SX.var ?h ?_); (case h => exact rfl))
  | (with_reducible refine SX.cb ?_) | (with_reducible refine SX.call ?_) | (with_reducible refine SX.tst ?_) | (with_reducible refine SX.tstB ?_) | (with_reducible refine SX.bl ?_)
  | (with_reducible refine SX.and ?_) | (with_reducible refine SX.or ?_) | (with_reducible refine SX.not ?_) | (with_reducible refine SX.andV ?_) | (with_reducible refine SX.orV ?_) | (with_reducible refine SX.notV ?_) | (with_reducible refine SX.ifE ?_) | (with_reducible refine SX.chain ?_)
  | (with_reducible refine SX.tup ?_) | (with_reducible refine SX.lst ?_) | (with_reducible refine SX.bm ?_) | (with_reducible refine SX.bm0 ?_) | (with_reducible refine SX.m0 ?_) | (with_reducible refine SX.m1 ?_) | (with_reducible refine SX.sl ?_) | (with_reducible refine SX.noPart ?_) | (with_reducible refine SX.part ?_)
  | ((with_reducible refine' SX.rng1 ?c ?_); (case c => omega)) | ((with_reducible refine' SX.rng2 ?c ?_); (case c => omega))
  | (with_reducible refine SX.int1 ?_) | (with_reducible refine SX.int2 ?_) | (with_reducible refine SX.add_int ?_) | (with_reducible refine SX.eq_int ?_) | (with_reducible refine SX.eq_str ?_) | (with_reducible refine SX.eq_bl ?_) | (with_reducible refine SX.ne_int ?_) | (with_reducible refine SX.ne_str ?_) | (with_reducible refine SX.ne_bl ?_)
  | (with_reducible refine SX.i0 ?_)
  | ((with_reducible refine' SX.modI ?c ?_); (case c => omega)) | ((with_reducible refine' SX.divI ?c ?_); (case c => omega)) | ((with_reducible refine' SX.mulL ?c ?_); (case c => omega)) | ((with_reducible refine' SX.mulR ?c ?_); (case c => omega))
  | ((with_reducible refine' SX.powI ?c ?_); (case c => first | decide | omega))
  | ((with_reducible refine' SX.ix_l ?h ?e ?_); (case h => first | assumption | exact SqL.of (by assumption) | exact SqL.of upd_same); (case e => exact rfl))
  | ((with_reducible refine' SX.ix_t ?h ?e ?_); (case h => first | assumption | exact SqT.of (by assumption) | exact SqT.of upd_same); (case e => exact rfl))
  | ((with_reducible refine' SX.len_l ?h ?_); (case h => first | assumption | exact SqL.of (by assumption) | exact SqL.of upd_same))
  | ((with_reducible refine' SX.len_t ?h ?_); (case h => first | assumption | exact SqT.of (by assumption) | exact SqT.of upd_same))
  | (with_reducible refine SX.asgG ?_) | (with_reducible refine SX.gsub ?_) | (with_reducible refine SX.gname ?_) | (with_reducible refine SX.par ?_) | (with_reducible refine SX.par2 ?_)
  | ((with_reducible refine' SX.setL ?h ?e ?_); (case h => assumption); (case e => exact rfl))
  | ((with_reducible refine' SX.aug ?h ?_); (case h => exact rfl)) | (with_reducible refine SX.ipi ?_)
  | (with_reducible refine SX.isi_int_int ?_) | (with_reducible refine SX.isi_int_bool ?_) | (with_reducible refine SX.isi_bl_bool ?_) | (with_reducible refine SX.isi_lst_list (by assumption) ?_) | (with_reducible refine SX.isi_tup_tuple (by assumption) ?_)
  | (with_reducible refine SX.max2 ?_) | (with_reducible refine SX.gcons ?_) | (with_reducible refine SX.gnil ?_) | ((with_reducible refine' SX.gtup ?h ?e ?_); (case h => first | assumption | exact SqT.of (by assumption) | exact SqT.of upd_same); (case e => rfl))
  | (with_reducible refine SX.forI ?_) | (with_reducible refine SX.irng1 ?_) | (with_reducible refine SX.irng2 ?_) | (with_reducible refine SX.ilst ?_)
  | ((with_reducible refine' SX.shrI ?c ?_); (case c => omega)) | ((with_reducible refine' SX.shlI ?c ?_); (case c => omega)) | (with_reducible refine SX.isi_sqT (by assumption) ?_) | (with_reducible refine SX.ienum ?_) | (with_reducible refine SX.itup ?_) | (with_reducible refine SX.istr ?_) | (with_reducible refine SX.lcI ?_) | (with_reducible refine SX.yes ?_)
  | (with_reducible refine iteT ?_) | (with_reducible refine iteF ?_) | (with_reducible refine SX.ifNT ?_) | (with_reducible refine SX.ifNF ?_))
local macro_rules | `(tactic| walk_at "sx") => `(tactic| (walk_at "sx1"; repeat walk_at "sx1"))

def spTwos (K : PySem.W.Frag) : Sp := fun vs H Q _ => ∃ k n : Nat, vs = [.int (k : Int), .int (n : Int)] ∧ n ≤ 6 ∧ ∀ v H', Kp [] H H' → SetAt K H' v (bits k n) → Q v H'
def spRight (K : PySem.W.Frag) : Sp := fun vs H Q _ => ∃ (a : Addr) (n : Nat) (ws : List V), vs = [.ref a, .int (n : Int)] ∧ n ≤ 6 ∧ H a = some (.lst ws) ∧ SetsAt K H ws (settings n) ∧ ∀ H', Kp [] H H' → Q (.bl true) H'
def spLaw (K : PySem.W.Frag) : Sp := fun vs H Q _ => ∃ (a : Addr) (ns : List Int), vs = [.ref a] ∧ SqL K H a (ns.map V.int) ∧ ns.length ≤ 63 ∧ ∀ H', Q (.bl true) H'
theorem two_pow_nat (j : Nat) : (2 : Int) ^ ((j : Int)).toNat = ((2 ^ j : Nat) : Int) := by simp

section
variable {P : Program} {w : World} {K : PySem.W.Frag} {mg : Str → Option Value} {base : Heap}

theorem ok_all_settings (T : Tx K mg) : FnOk P w K mg base CX0 1 T.a_all_settings T.d_all_settings ["n"] (spSettings K) := by
  refine T.F_all_settings.ok sc_all_settings (fun vs H Q E h => ?_) (fun cdv A outer s H vs Q E hr h => ?_)
  · obtain ⟨n, rfl, _⟩ := h
    rfl
  · obtain ⟨n, rfl, n6, q⟩ := h
    refine ⟨_, (pss_cons
        (ps_set (i := 1) sc_all_settings.nd rfl (by first | exact Or.inl rfl | exact Or.inr rfl) (pe_lst (pa_cons (pe_tup pa_nil) pa_nil)))
      (pss_cons
        (ps_for PassesOwn.never rfl (pi_range1 (by rfl) T.b_range (pa_cons (pv 0) pa_nil)) (pg_name (i := 2) sc_all_settings.nd rfl (by first | exact Or.inl rfl | exact Or.inr rfl))
          (pss_cons
            (ps_set (i := 3) sc_all_settings.nd rfl (by first | exact Or.inl rfl | exact Or.inr rfl) (pe_lst pa_nil))
          (pss_cons
            (ps_for PassesOwn.never rfl (pi_list (pv 1)) (pg_name (i := 4) sc_all_settings.nd rfl (by first | exact Or.inl rfl | exact Or.inr rfl))
              (pss_one
                (ps_expr (pe_bm PySem.F.plainAttrs_list PySem.F.slot_list_extend PySem.F.type_list_extend mt_extend (pv 3) (pa_cons (pe_lst (pa_cons (pe_op (r := xAdd K) op_xAdd (pv 4) (pe_tup (pa_cons pe_int pa_nil))) (pa_cons (pe_op (r := xAdd K) op_xAdd (pv 4) (pe_tup (pa_cons pe_int pa_nil))) pa_nil))) pa_nil)))))
          (pss_one
            (ps_set (i := 1) sc_all_settings.nd rfl (by first | exact Or.inl rfl | exact Or.inr rfl) (pv 3))))))
      (pss_one
        (ps_ret (pv 1))))), ?_⟩
    walk_at "sx"
    refine ⟨by show 0 ≤ sizeLine; decide, fun t ht => ?_⟩
    walk_at "sx"
    refine ⟨by show 1 ≤ sizeLine; decide, fun l hl => ?_⟩
    walk_at "sx"
    have kt := Kp.new (S := []) (o := .tup []) ht
    have k0 := kt.trans (Kp.new (S := []) (o := .lst [.ref t]) hl)
    have st : SetAt K (upd (upd H t (.tup [])) l (.lst [.ref t])) (.ref t) [] := ⟨t, rfl, (Kp.new (S := []) hl).sqT (SqT.of upd_same)⟩
    refine for_range (lo := 0) (fun i σ H' => Kp [] H H' ∧ ∃ x y z f ws, σ = [some (.int (n : Int)), some (.ref f), x, y, z] ∧ H f = none ∧ H' f = some (.lst ws) ∧ SetsAt K H' ws (settings i)) ?_ ?_ ?_
    · exact ⟨k0, _, _, _, l, _, rfl, kt.free (by simp) hl, upd_same, .cons st .nil⟩
    · rintro i σ H' hi ⟨kk, x, y, z, f, ws, rfl, f0, hf, hw⟩
      rw [Int.toNat_natCast] at hi
      walk_at "sx"
      refine ⟨by show 0 ≤ sizeLine; decide, fun g hg => ?_⟩
      have g0 := kk.free (by simp) hg
      have nfg : f ≠ g := ne_of_none hf hg
      have hlen : ws.length = 2 ^ i := by rw [Paired.length hw, settings_len]
      have h32 : 2 ^ i ≤ 2 ^ 5 := Nat.pow_le_pow_right (by decide) (by omega)
      walk_at "sx"
      have kg := Kp.new (S := []) (o := .lst []) hg
      refine ⟨f, rfl, ⟨ws, SqL.of (kg.keep f _ (by simp) hf)⟩, for_list (K := K) (a := f) (xs := ws) (fun j σ H2 => Kp [] H H2 ∧ H2 f = some (.lst ws) ∧ (∃ x, ∃ z, σ = [some (.int (n : Int)), some (.ref f), x, some (.ref g), z]) ∧ SetsAt K H2 ws (settings i) ∧ ∃ us, H2 g = some (.lst us) ∧ SetsAt K H2 us (((settings i).take j).flatMap (fun s => [s ++ [0], s ++ [1]]))) ?_ ?_ ?_ ?_⟩
      · exact ⟨kk.trans kg, kg.keep f _ (by simp) hf, ⟨_, _, rfl⟩, hw.kp kg, [], upd_same, .nil⟩
      · rintro j σ H2 _ ⟨_, h, _⟩
        exact SqL.of h
      · rintro j v σ H2 hv ⟨k2, hf2, ⟨x, z, rfl⟩, hw2, us, hu, hus⟩
        obtain ⟨s', hs', hsv⟩ := Paired.at hw2 hv
        obtain ⟨c, rfl, hc⟩ := hsv
        have hul : us.length = 2 * ((settings i).take j).length := by
          rw [Paired.length hus]
          generalize (settings i).take j = l
          induction l with
          | nil => rfl
          | cons a r ih => rw [List.flatMap_cons, List.length_append, ih]; simp; omega
        have hj : ((settings i).take j).length ≤ 32 := by
          rw [List.length_take, settings_len]
          omega
        have hsl : s'.length ≤ 6 := by
          rw [settings_at hs', bits_len]
          omega
        walk_at "sx"
        refine ⟨.inl ⟨rfl, _, SqL.of hu⟩, ?_⟩
        walk_at "sx"
        refine ⟨by show 1 ≤ sizeLine; decide, fun t1 ht1 => ?_⟩
        have e1 := Kp.new (S := []) (o := .tup [.int 0]) ht1
        refine SX.add_tup (e1.sqT hc) (SqT.of upd_same) (by rw [List.length_map]; simp; omega) (fun c1 H3 e2 h1 => ?_)
        have e12 := e1.trans e2
        walk_at "sx"
        refine ⟨by show 1 ≤ sizeLine; decide, fun t2 ht2 => ?_⟩
        have e3 := Kp.new (S := []) (o := .tup [.int 1]) ht2
        refine SX.add_tup (e3.sqT (e12.sqT hc)) (SqT.of upd_same) (by rw [List.length_map]; simp; omega) (fun c2 H4 e4 h2 => ?_)
        have e34 := e3.trans e4
        have e14 := e12.trans e34
        walk_at "sx"
        refine ⟨by show 2 ≤ sizeLine; decide, fun l2 hl2 => ?_⟩
        have e5 := Kp.new (S := []) (o := .lst [.ref c1, .ref c2]) hl2
        have e15 := e14.trans e5
        walk_at "sx"
        have hg5 := e15.keep g _ (by simp) hu
        have nl2 : g ≠ l2 := ne_of_none (e14.keep g _ (by simp) hu) hl2
        refine ⟨g, l2, us, [.ref c1, .ref c2], rfl, rfl, hg5, upd_same, ?_, ?_⟩
        · show us.length + 2 ≤ sizeLine
          exact Nat.le_trans (by omega) (by decide : 1000 ≤ sizeLine)
        walk_at "sx"
        have k6 := Kp.set (S := [g]) (o := .lst (us ++ [.ref c1, .ref c2])) hg5 (by simp)
        refine ⟨(k2.trans e15).mut g0, ?_, ⟨_, _, rfl⟩, ((hw2.kp e15).kp k6), _, upd_same, ?_⟩
        · rw [upd_ne nfg]
          exact e15.keep f _ (by simp) hf2
        · have et : (settings i).take (j + 1) = (settings i).take j ++ [s'] := by rw [List.take_add_one, hs'] <;> rfl
          rw [et, List.flatMap_append]
          refine Paired.app ((hus.kp e15).kp k6) ?_
          refine .cons ⟨c1, rfl, ?_⟩ (.cons ⟨c2, rfl, ?_⟩ .nil)
          · refine k6.sqT (e5.sqT (e34.sqT ?_))
            rw [List.map_append]
            exact h1
          · refine k6.sqT (e5.sqT ?_)
            rw [List.map_append]
            exact h2
      · rintro σ H2 ⟨k2, hf2, ⟨x, z, rfl⟩, hw2, us, hu, hus⟩
        rw [hlen, ← settings_len i, List.take_length, settings_step i (by omega)] at hus
        walk_at "sx"
        exact ⟨k2, _, _, _, g, us, rfl, g0, hu, hus⟩
    · rintro σ H' ⟨kk, x, y, z, f, ws, rfl, f0, hf, hw⟩
      rw [Int.toNat_natCast] at hw
      walk_at "sx"
      exact q f ws H' kk f0 hf hw


theorem ok__law_feed (T : Tx K mg) : FnOk P w K mg base CX0 1 T.a__law_feed T.d__law_feed ["_law_script", "_law_k"] (spFeed K) := by
  refine T.F__law_feed.ok sc__law_feed (fun vs H Q E h => ?_) (fun cdv A outer s H vs Q E hr h => ?_)
  · obtain ⟨a, ns, k, rfl, _⟩ := h
    rfl
  · obtain ⟨a, ns, k, rfl, hS, h63, k0, k1, q⟩ := h
    refine ⟨_, (pss_cons
        (ps_set (i := 2) sc__law_feed.nd rfl (by first | exact Or.inl rfl | exact Or.inr rfl) (pe_op (r := xAdd K) op_xAdd (pe_op op_xMul pe_int (pv 1)) pe_int))
      (pss_cons
        (ps_if (pt_cmpR op_lt (pv 1) (pe_callB (id := "len") (r := xLen K) call_xLen (by rfl) T.b_len (by decide +kernel) (pa_cons (pv 0) pa_nil)) (nomark _))
          (pss_one
            (ps_set (i := 2) sc__law_feed.nd rfl (by first | exact Or.inl rfl | exact Or.inr rfl) (pe_ix (r := xIx K) ix_x (pv 0) (pv 1) (fun _ _ => rfl))))
          (pss_one
            (ps_if (pt_cmpR op_gt (pe_callB (id := "len") (r := xLen K) call_xLen (by rfl) T.b_len (by decide +kernel) (pa_cons (pv 0) pa_nil)) pe_int (nomark _))
              (pss_one
                (ps_set (i := 2) sc__law_feed.nd rfl (by first | exact Or.inl rfl | exact Or.inr rfl) (pe_op (r := xAdd K) op_xAdd (pe_op op_xMul (pe_op op_mod (pe_ix (r := xIx K) ix_x (pv 0) (pe_op op_mod (pv 1) (pe_callB (id := "len") (r := xLen K) call_xLen (by rfl) T.b_len (by decide +kernel) (pa_cons (pv 0) pa_nil))) (fun _ _ => rfl)) pe_int) pe_int) (pe_op op_xMul pe_int (pv 1)))))
              pss_nil)))
      (pss_cons
        (ps_set (i := 3) sc__law_feed.nd rfl (by first | exact Or.inl rfl | exact Or.inr rfl) pe_int)
      (pss_cons
        (ps_if (pt_cmpR op_ge (pv 2) (pe_op op_pow pe_int pe_int) (nomark _))
          (pss_one
            (ps_set (i := 3) sc__law_feed.nd rfl (by first | exact Or.inl rfl | exact Or.inr rfl) (pv 2)))
          pss_nil)
      (pss_one
        (ps_ret (pe_lst (pa_cons (pv 3) (pa_cons (pe_op (r := xAdd K) op_xAdd (pe_op op_mod (pe_op (r := xAdd K) op_xAdd (pe_op op_xMul (pe_op op_mod (pv 2) pe_int) pe_int) (pe_op op_xMul pe_int (pv 1))) pe_int) pe_int) pa_nil))))))))), ?_⟩
    walk_at "sx"
    rw [len_map]
    refine SX.ifD (fun h1 => ?_) (fun h1 => ?_)
    · obtain ⟨v, hv⟩ := at_int (ns := ns) k0 h1
      walk_at "sx"
      refine SX.ix_l hS hv ?_
      walk_at "sx"
      rw [pow18]
      refine SX.ifD (fun h2 => ?_) (fun h2 => ?_)
      · walk_at "sx"
        refine ⟨by show 2 ≤ sizeLine; decide, fun p hp => ?_⟩
        walk_at "sx"
        exact q p _ hp (Kp.new hp) ⟨_, _, upd_same, by omega, by omega, by omega⟩
      · walk_at "sx"
        refine ⟨by show 2 ≤ sizeLine; decide, fun p hp => ?_⟩
        walk_at "sx"
        exact q p _ hp (Kp.new hp) ⟨_, _, upd_same, by omega, by omega, by omega⟩
    · walk_at "sx"
      rw [len_map]
      refine SX.ifD (fun h2 => ?_) (fun h2 => ?_)
      · walk_at "sx"
        rw [len_map]
        have b := take_bound (x := k) (m := (ns.length : Int)) (by omega)
        refine SX.modI (by omega) ?_
        obtain ⟨v, hv⟩ := at_int (ns := ns) b.1 b.2
        refine SX.ix_l hS hv ?_
        walk_at "sx"
        rw [pow18]
        refine SX.ifD (fun h2 => ?_) (fun h2 => ?_)
        · walk_at "sx"
          refine ⟨by show 2 ≤ sizeLine; decide, fun p hp => ?_⟩
          walk_at "sx"
          exact q p _ hp (Kp.new hp) ⟨_, _, upd_same, by omega, by omega, by omega⟩
        · walk_at "sx"
          refine ⟨by show 2 ≤ sizeLine; decide, fun p hp => ?_⟩
          walk_at "sx"
          exact q p _ hp (Kp.new hp) ⟨_, _, upd_same, by omega, by omega, by omega⟩
      · walk_at "sx"
        rw [pow18]
        refine SX.ifD (fun h2 => ?_) (fun h2 => ?_)
        · walk_at "sx"
          refine ⟨by show 2 ≤ sizeLine; decide, fun p hp => ?_⟩
          walk_at "sx"
          exact q p _ hp (Kp.new hp) ⟨_, _, upd_same, by omega, by omega, by omega⟩
        · walk_at "sx"
          refine ⟨by show 2 ≤ sizeLine; decide, fun p hp => ?_⟩
          walk_at "sx"
          exact q p _ hp (Kp.new hp) ⟨_, _, upd_same, by omega, by omega, by omega⟩


theorem ok__law_take (T : Tx K mg) : FnOk P w K mg base CX0 1 T.a__law_take T.d__law_take ["_law_feed_here", "_law_many"] spTake := by
  refine T.F__law_take.ok sc__law_take (fun vs H Q E h => ?_) (fun cdv A outer s H vs Q E hr h => ?_)
  · obtain ⟨p, m, rfl, _⟩ := h
    rfl
  · obtain ⟨p, m, rfl, ⟨o, sd, hF, o0, s0, s1⟩, m0, m1, q⟩ := h
    refine ⟨_, (pss_cons
        (ps_if (pt_cmpR op_gt (pe_ix (r := xIx K) ix_x (pv 0) pe_int (fun _ _ => rfl)) pe_int (nomark _))
          (pss_cons
            (ps_set (i := 2) sc__law_take.nd rfl (by first | exact Or.inl rfl | exact Or.inr rfl) (pe_op op_mod (pe_ix (r := xIx K) ix_x (pv 0) pe_int (fun _ _ => rfl)) (pv 1)))
          (pss_cons
            (ps_asg (pe_op op_fdivW (pe_ix (r := xIx K) ix_x (pv 0) pe_int (fun _ _ => rfl)) (pv 1)) (pg_sub (pv 0) pe_int set_list))
          (pss_one
            (ps_ret (pv 2)))))
          pss_nil)
      (pss_cons
        (ps_set (i := 3) sc__law_take.nd rfl (by first | exact Or.inl rfl | exact Or.inr rfl) (pe_op op_mod (pe_op op_xMul (pe_ix (r := xIx K) ix_x (pv 0) pe_int (fun _ _ => rfl)) pe_int) pe_int))
      (pss_cons
        (ps_asg (pe_op (r := xAdd K) op_xAdd (pe_op op_mod (pe_op (r := xAdd K) op_xAdd (pe_op op_xMul (pv 3) pe_int) pe_int) pe_int) pe_int) (pg_sub (pv 0) pe_int set_list))
      (pss_one
        (ps_ret (pe_op op_mod (pe_op op_fdivW (pe_op (r := xAdd K) op_xAdd (pe_op op_xMul (pv 3) pe_int) (pe_ix (r := xIx K) ix_x (pv 0) pe_int (fun _ _ => rfl))) pe_int) (pv 1))))))), ?_⟩
    walk_at "sx"
    refine SX.ifD (fun h1 => ?_) (fun h1 => ?_)
    · walk_at "sx"
      have b := take_bound (x := o) m0
      refine q _ _ b.1 b.2 (Kp.set hF (by simp)) ⟨_, _, upd_same, Int.ediv_nonneg (by omega) (by omega), s0, s1⟩
    · walk_at "sx"
      have b := fun x => take_bound (x := x) m0
      exact q _ _ (b _).1 (b _).2 (Kp.set hF (by simp)) ⟨_, _, upd_same, o0, by omega, by omega⟩


theorem ok__law_by_twos (T : Tx K mg) : FnOk P w K mg base CX0 1 T.a__law_by_twos T.d__law_by_twos ["_law_k", "_law_n"] (spTwos K) := by
  refine T.F__law_by_twos.ok sc__law_by_twos (fun vs H Q E h => ?_) (fun cdv A outer s H vs Q E hr h => ?_)
  · obtain ⟨k, n, rfl, _⟩ := h
    rfl
  · obtain ⟨k, n, rfl, n6, q⟩ := h
    refine ⟨_, (pss_cons
        (ps_set (i := 2) sc__law_by_twos.nd rfl (by first | exact Or.inl rfl | exact Or.inr rfl) (pe_tup pa_nil))
      (pss_cons
        (ps_for PassesOwn.never rfl (pi_range1 (by rfl) T.b_range (pa_cons (pv 1) pa_nil)) (pg_name (i := 3) sc__law_by_twos.nd rfl (by first | exact Or.inl rfl | exact Or.inr rfl))
          (pss_one
            (ps_set (i := 2) sc__law_by_twos.nd rfl (by first | exact Or.inl rfl | exact Or.inr rfl) (pe_op (r := xAdd K) op_xAdd (pe_tup (pa_cons (pe_op op_mod (pe_op op_shr (pv 0) (pv 3)) pe_int) pa_nil)) (pv 2)))))
      (pss_one
        (ps_ret (pv 2))))), ?_⟩
    walk_at "sx"
    refine ⟨by show 0 ≤ sizeLine; decide, fun t ht => ?_⟩
    walk_at "sx"
    refine for_range (lo := 0) (fun i σ H' => Kp [] H H' ∧ ∃ x v, σ = [some (.int (k : Int)), some (.int (n : Int)), some v, x] ∧ SetAt K H' v (bits k i)) ?_ ?_ ?_
    · exact ⟨Kp.new ht, _, _, rfl, _, rfl, SqT.of upd_same⟩
    · rintro i σ H' hi ⟨kk, x, v, rfl, c, rfl, hc⟩
      rw [Int.toNat_natCast] at hi
      walk_at "sx"
      refine ⟨by show 1 ≤ sizeLine; decide, fun t ht => ?_⟩
      walk_at "sx"
      have k2 := Kp.new (S := []) (o := .tup [.int ((k : Int) / 2 ^ (0 + (i : Int)).toNat % 2)]) ht
      refine SX.add_tup (SqT.of upd_same) (k2.sqT hc) (by rw [List.length_map, bits_len]; simp; omega) (fun c2 H2 k3 h2 => ?_)
      walk_at "sx"
      refine ⟨(kk.trans k2).trans k3, _, _, rfl, c2, rfl, ?_⟩
      have e : (V.int ((k : Int) / 2 ^ (0 + (i : Int)).toNat % 2) :: (bits k i).map V.int) = (bits k (i + 1)).map V.int := by
        rw [bits, List.map_cons, Int.zero_add, two_pow_nat]
        rfl
      rw [← e]
      exact h2
    · rintro σ H' ⟨kk, x, v, rfl, hc⟩
      rw [Int.toNat_natCast] at hc
      walk_at "sx"
      exact q v H' kk hc


theorem ok__law_right (T : Tx K mg) : FnOk P w K mg base CX0 2 T.a__law_right T.d__law_right ["_law_found", "_law_n"] (spRight K) := by
  refine T.F__law_right.ok sc__law_right (fun vs H Q E h => ?_) (fun cdv A outer s H vs Q E hr h => ?_)
  · obtain ⟨a, n, ws, rfl, _⟩ := h
    rfl
  · obtain ⟨a, n, ws, rfl, n6, ha, hw, q⟩ := h
    have hlen : ws.length = 2 ^ n := by rw [Paired.length hw, settings_len]
    refine ⟨_, (pss_cons
        (ps_if (PW.pt (pw_or (pt_not (pt_val (pe_callB (id := "isinstance") (r := rIsi K) call_isi (by rfl) T.b_isinstance (by decide +kernel) (pa_cons (pv 0) (pa_cons (pe_bltn (v := .ty "list") (by rfl) T.b_list (by decide +kernel) rfl) pa_nil))))) (pw_or1 (pt_cmpR (r := xNe K) (op_xNe hr.units) (pe_callB (id := "len") (r := xLen K) call_xLen (by rfl) T.b_len (by decide +kernel) (pa_cons (pv 0) pa_nil)) (pe_op op_shl pe_int (pv 1)) (nomark _)))))
          (pss_one
            (ps_ret pe_bl))
          pss_nil)
      (pss_cons
        (ps_for PassesOwn.never rfl (pi_enum (by rfl) T.b_enumerate (pa_cons (pv 0) pa_nil)) (pg_tup rfl (pgs_cons (pg_name (i := 2) sc__law_right.nd rfl (by first | exact Or.inl rfl | exact Or.inr rfl)) (pgs_cons (pg_name (i := 3) sc__law_right.nd rfl (by first | exact Or.inl rfl | exact Or.inr rfl)) pgs_nil)))
          (pss_cons
            (ps_if (PW.pt (pw_or (pt_not (pt_val (pe_callB (id := "isinstance") (r := rIsi K) call_isi (by rfl) T.b_isinstance (by decide +kernel) (pa_cons (pv 3) (pa_cons (pe_bltn (v := .ty "tuple") (by rfl) T.b_tuple (by decide +kernel) rfl) pa_nil))))) (pw_or1 (pt_cmpR (r := xNe K) (op_xNe hr.units) (pv 3) (pe_call (ok__law_by_twos T) (hr.mono (by decide)) (by rfl) T.m__law_by_twos T.F__law_by_twos.kp T.B__law_by_twos .nil pass0 (pa_cons (pv 2) (pa_cons (pv 1) pa_nil))) (nomark _)))))
              (pss_one
                (ps_ret pe_bl))
              pss_nil)
          (pss_one
            (ps_if (pt_cmpR (r := xNe K) (op_xNe hr.units) (pe_callB (id := "len") (r := xLen K) call_xLen (by rfl) T.b_len (by decide +kernel) (pa_cons (pe_lc (own := [("_law_one", 4)]) rfl sc__law_right.nd (pi_tup (pv 3)) (blkOk_by (N := N__law_right) (sc := defScope s__law_right) (own := [("_law_one", 4)]) (by decide +kernel)) (fun _ _ _ _ _ => (pg_name (i := 4) sc__law_right.nd rfl (by first | exact Or.inl rfl | exact Or.inr rfl))) (fun _ _ _ _ _ => pts_one (PW.pt (pw_and (pt_val (pe_callB (id := "isinstance") (r := rIsi K) call_isi (by rfl) T.b_isinstance (by decide +kernel) (pa_cons (pv 4) (pa_cons (pe_bltn (v := .ty "int") (by rfl) T.b_int (by decide +kernel) rfl) pa_nil)))) (pw_and1 (pt_not (pt_val (pe_callB (id := "isinstance") (r := rIsi K) call_isi (by rfl) T.b_isinstance (by decide +kernel) (pa_cons (pv 4) (pa_cons (pe_bltn (v := .ty "bool") (by rfl) T.b_bool (by decide +kernel) rfl) pa_nil))))))))) (fun _ _ _ _ _ => (pv 4))) pa_nil)) (pv 1) (nomark _))
              (pss_one
                (ps_ret pe_bl))
              pss_nil))))
      (pss_one
        (ps_ret pe_bl)))), ?_⟩
    walk_at "sx"
    refine SX.ifNP ?_ ?_
    · rw [hlen, Int.one_mul, two_pow_nat]
    walk_at "sx"
    refine ⟨a, ws, rfl, SqL.of ha, for_enum (K := K) (a := a) (xs := ws) (fun i σ H' => Kp [] H H' ∧ ∃ x y z, σ = [some (.ref a), some (.int (n : Int)), x, y, z]) ?_ ?_ ?_ ?_⟩
    · exact ⟨.refl H, _, _, _, rfl⟩
    · rintro i σ H' hi ⟨kk, _⟩
      exact SqL.of (kk.keep a _ (by simp) ha)
    · rintro i v σ H' hv ⟨kk, x, y, z, rfl⟩ p hp
      obtain ⟨s', hs', hsv⟩ := Paired.at hw hv
      have es := settings_at hs'
      subst es
      have k1 := kk.trans (Kp.new (o := .tup [.int (i : Nat), v]) hp)
      obtain ⟨c, rfl, hc⟩ := hsv.kp k1
      walk_at "sx"
      refine ⟨i, n, rfl, n6, fun u H2 k2 h2 => ?_⟩
      obtain ⟨c2, rfl, hc2⟩ := h2
      have k12 := k1.trans k2
      refine SX.ne_tupI (k2.sqT hc) hc2 ?_
      walk_at "sx"
      refine SX.ifNP rfl ?_
      walk_at "sx"
      refine ⟨c, rfl, ⟨_, k2.sqT hc⟩, fun D hD => ?_⟩
      have hc' := (k12.trans (Kp.new (S := []) (o := .lst []) hD))
      refine lc_tup (K := K) (a := c) (xs := (bits i n).map V.int) (fun j H' => Kp [] H H' ∧ H' D = some (.lst (((bits i n).take j).map V.int)) ∧ SqT K H' c ((bits i n).map V.int)) ?_ ?_ ?_ ?_
      · exact ⟨hc', upd_same, (Kp.new (S := []) hD).sqT (k2.sqT hc)⟩
      · rintro j H' hj ⟨_, _, h⟩
        exact h
      · rintro j u H' hu ⟨kj, hj, hcj⟩
        obtain ⟨m, hm, rfl⟩ : ∃ m, (bits i n)[j]? = some m ∧ u = V.int m := by
          rw [List.getElem?_map] at hu
          cases e : (bits i n)[j]? with
          | none => rw [e] at hu; cases hu
          | some m => rw [e] at hu; exact ⟨m, rfl, (Option.some.inj hu).symm⟩
        walk_at "sx"
        refine ⟨rfl, ?_⟩
        walk_at "sx"
        refine ⟨_, hj, ?_, ?_, upd_same.trans ?_, ?_⟩
        · rw [List.length_map, List.length_take, bits_len]
          exact Nat.lt_of_le_of_lt (by omega) (by decide : 100 < sizeLine)
        · exact kj.mut (k12.free (by simp) hD)
        · have e : (bits i n).take (j + 1) = (bits i n).take j ++ [m] := by rw [List.take_add_one, hm] <;> rfl
          rw [e, List.map_append]
          rfl
        · exact (Kp.set (S := [D]) hj (by simp)).sqT hcj
      · rintro H' ⟨kj, hj, hcj⟩
        rw [List.length_map, List.take_length] at hj
        walk_at "sx"
        rw [List.length_map, bits_len]
        refine SX.ifNP rfl ?_
        walk_at "sx"
        exact ⟨kj, _, _, _, rfl⟩
    · rintro σ H' ⟨kk, x, y, z, rfl⟩
      walk_at "sx"
      exact q _ kk


theorem ok_law (T : Tx K mg) : FnOk P w K mg base CX0 3 T.a_law T.d_law ["_law_script"] (spLaw K) := by
  refine T.F_law.ok sc_law (fun vs H Q E h => ?_) (fun cdv A outer s H vs Q E hr h => ?_)
  · obtain ⟨a, ns, rfl, _⟩ := h
    rfl
  · obtain ⟨a, ns, rfl, hS, h63, q⟩ := h
    refine ⟨_, (pss_cons
        (ps_set (i := 1) sc_law.nd rfl (by first | exact Or.inl rfl | exact Or.inr rfl) (pe_call (ok__law_feed T) (hr.mono (by decide)) (by rfl) T.m__law_feed T.F__law_feed.kp T.B__law_feed .nil pass0 (pa_cons (pv 0) (pa_cons pe_int pa_nil))))
      (pss_cons
        (ps_set (i := 2) sc_law.nd rfl (by first | exact Or.inl rfl | exact Or.inr rfl) (pe_call (ok__law_take T) (hr.mono (by decide)) (by rfl) T.m__law_take T.F__law_take.kp T.B__law_take .nil pass0 (pa_cons (pv 1) (pa_cons pe_int pa_nil))))
      (pss_cons
        (ps_set (i := 3) sc_law.nd rfl (by first | exact Or.inl rfl | exact Or.inr rfl) (pe_call (ok__law_take T) (hr.mono (by decide)) (by rfl) T.m__law_take T.F__law_take.kp T.B__law_take .nil pass0 (pa_cons (pv 1) (pa_cons pe_int pa_nil))))
      (pss_cons
        (ps_set (i := 4) sc_law.nd rfl (by first | exact Or.inl rfl | exact Or.inr rfl) (pe_call (ok_all_settings T) (hr.mono (by decide)) (by rfl) T.m_all_settings T.F_all_settings.kp T.B_all_settings .nil pass0 (pa_cons (pv 2) pa_nil)))
      (pss_cons
        (ps_if (PW.pt (pw_or (pt_not (pt_val (pe_call (ok__law_right T) (hr.mono (by decide)) (by rfl) T.m__law_right T.F__law_right.kp T.B__law_right .nil pass0 (pa_cons (pv 4) (pa_cons (pv 2) pa_nil))))) (pw_or1 (pt_not (pt_val (pe_call (ok__law_right T) (hr.mono (by decide)) (by rfl) T.m__law_right T.F__law_right.kp T.B__law_right .nil pass0 (pa_cons (pe_call (ok_all_settings T) (hr.mono (by decide)) (by rfl) T.m_all_settings T.F_all_settings.kp T.B_all_settings .nil pass0 (pa_cons (pv 3) pa_nil)) (pa_cons (pv 3) pa_nil))))))))
          (pss_one
            (ps_ret pe_bl))
          pss_nil)
      (pss_cons
        (ps_expr (pe_bm PySem.F.plainAttrs_list PySem.F.slot_list_append PySem.F.type_list_append mt_append (pv 4) (pa_cons (pe_tup pa_nil) pa_nil)))
      (pss_one
        (ps_ret (pe_call (ok__law_right T) (hr.mono (by decide)) (by rfl) T.m__law_right T.F__law_right.kp T.B__law_right .nil pass0 (pa_cons (pe_call (ok_all_settings T) (hr.mono (by decide)) (by rfl) T.m_all_settings T.F_all_settings.kp T.B_all_settings .nil pass0 (pa_cons (pv 2) pa_nil)) (pa_cons (pv 2) pa_nil))))))))))), ?_⟩
    walk_at "sx"
    refine ⟨a, ns, 0, rfl, hS, h63, by decide, by decide, fun p H1 hp K1 F1 => ?_⟩
    walk_at "sx"
    refine ⟨p, 7, rfl, F1, by decide, by decide, fun d1 H2 a0 a1 K2 F2 => ?_⟩
    walk_at "sx"
    refine ⟨p, 7, rfl, F2, by decide, by decide, fun d2 H3 b0 b1 K3 F3 => ?_⟩
    obtain ⟨n, rfl⟩ : ∃ n : Nat, d1 = (n : Int) := ⟨d1.toNat, by omega⟩
    obtain ⟨m, rfl⟩ : ∃ m : Nat, d2 = (m : Int) := ⟨d2.toNat, by omega⟩
    walk_at "sx"
    refine ⟨n, rfl, by omega, fun f ws H4 K4 f0 hf hw => ?_⟩
    walk_at "sx"
    refine ⟨f, n, ws, rfl, by omega, hf, hw, fun H5 K5 => ?_⟩
    walk_at "sx"
    refine ⟨m, rfl, by omega, fun f2 ws2 H6 K6 f20 hf2 hw2 => ?_⟩
    walk_at "sx"
    refine ⟨f2, m, ws2, rfl, by omega, hf2, hw2, fun H7 K7 => ?_⟩
    walk_at "sx"
    have hf7 := K7.keep f _ (by simp) (K6.keep f _ (by simp) (K5.keep f _ (by simp) hf))
    refine ⟨.inl ⟨rfl, _, SqL.of hf7⟩, ?_⟩
    walk_at "sx"
    refine ⟨by show 0 ≤ sizeLine; decide, fun t ht => ?_⟩
    walk_at "sx"
    have nft : f ≠ t := ne_of_none hf7 ht
    refine ⟨f, ws, _, rfl, rfl, by rw [upd_ne nft]; exact hf7, ?_, ?_⟩
    · rw [Paired.length hw, settings_len]
      have : 2 ^ n ≤ 2 ^ 6 := Nat.pow_le_pow_right (by decide) (by omega)
      exact Nat.lt_of_le_of_lt this (by decide)
    walk_at "sx"
    refine ⟨n, rfl, by omega, fun f3 ws3 H8 K8 f30 hf3 hw3 => ?_⟩
    walk_at "sx"
    refine ⟨f3, n, ws3, rfl, by omega, hf3, hw3, fun H9 K9 => ?_⟩
    walk_at "sx"
    exact q _

end
theorem all_mk {l : PySem.W.OpenLaw} {w : World} {K : PySem.W.Frag} {h : Heap} {mg : Str → Option Value} {fa : Addr} (X : K.In h) (G : h.Ns mainGlobals mg) (hfa : mg "law" = some (.ref fa))
    {f0 : Addr} {od0 an0 : Option Addr} {sl0 : Array (Option Value)} {oc0 kV0 dc0 pm0 cd0 ct0 : Value}
    (a0 : PySem.W.nsIn K mainGlobals "all_settings" = some (some (.ref f0)))
    (l0 : K.lookup f0 = some ⟨oc0, od0, .func (PySem.W.fnOf "all_settings" "all_settings" (defArgs s_all_settings) (defBody s_all_settings) (defScope s_all_settings) .none kV0 dc0 pm0 an0 cd0 ct0), sl0⟩) (c0 : PySem.W.codeIn K cd0 "all_settings" = true) (k0 : PySem.W.keepIn K (.ref f0) = true)
    {f1 : Addr} {od1 an1 : Option Addr} {sl1 : Array (Option Value)} {oc1 kV1 dc1 pm1 cd1 ct1 : Value}
    (a1 : PySem.W.nsIn K mainGlobals "_law_feed" = some (some (.ref f1)))
    (l1 : K.lookup f1 = some ⟨oc1, od1, .func (PySem.W.fnOf "_law_feed" "_law_feed" (defArgs s__law_feed) (defBody s__law_feed) (defScope s__law_feed) .none kV1 dc1 pm1 an1 cd1 ct1), sl1⟩) (c1 : PySem.W.codeIn K cd1 "_law_feed" = true) (k1 : PySem.W.keepIn K (.ref f1) = true)
    {f2 : Addr} {od2 an2 : Option Addr} {sl2 : Array (Option Value)} {oc2 kV2 dc2 pm2 cd2 ct2 : Value}
    (a2 : PySem.W.nsIn K mainGlobals "_law_take" = some (some (.ref f2)))
    (l2 : K.lookup f2 = some ⟨oc2, od2, .func (PySem.W.fnOf "_law_take" "_law_take" (defArgs s__law_take) (defBody s__law_take) (defScope s__law_take) .none kV2 dc2 pm2 an2 cd2 ct2), sl2⟩) (c2 : PySem.W.codeIn K cd2 "_law_take" = true) (k2 : PySem.W.keepIn K (.ref f2) = true)
    {f3 : Addr} {od3 an3 : Option Addr} {sl3 : Array (Option Value)} {oc3 kV3 dc3 pm3 cd3 ct3 : Value}
    (a3 : PySem.W.nsIn K mainGlobals "_law_by_twos" = some (some (.ref f3)))
    (l3 : K.lookup f3 = some ⟨oc3, od3, .func (PySem.W.fnOf "_law_by_twos" "_law_by_twos" (defArgs s__law_by_twos) (defBody s__law_by_twos) (defScope s__law_by_twos) .none kV3 dc3 pm3 an3 cd3 ct3), sl3⟩) (c3 : PySem.W.codeIn K cd3 "_law_by_twos" = true) (k3 : PySem.W.keepIn K (.ref f3) = true)
    {f4 : Addr} {od4 an4 : Option Addr} {sl4 : Array (Option Value)} {oc4 kV4 dc4 pm4 cd4 ct4 : Value}
    (a4 : PySem.W.nsIn K mainGlobals "_law_right" = some (some (.ref f4)))
    (l4 : K.lookup f4 = some ⟨oc4, od4, .func (PySem.W.fnOf "_law_right" "_law_right" (defArgs s__law_right) (defBody s__law_right) (defScope s__law_right) .none kV4 dc4 pm4 an4 cd4 ct4), sl4⟩) (c4 : PySem.W.codeIn K cd4 "_law_right" = true) (k4 : PySem.W.keepIn K (.ref f4) = true)
    {f5 : Addr} {od5 an5 : Option Addr} {sl5 : Array (Option Value)} {oc5 kV5 dc5 pm5 cd5 ct5 : Value}
    (a5 : PySem.W.nsIn K mainGlobals "law" = some (some (.ref f5)))
    (l5 : K.lookup f5 = some ⟨oc5, od5, .func (PySem.W.fnOf "law" "law" (defArgs s_law) (defBody s_law) (defScope s_law) .none kV5 dc5 pm5 an5 cd5 ct5), sl5⟩) (c5 : PySem.W.codeIn K cd5 "law" = true) (k5 : PySem.W.keepIn K (.ref f5) = true)
    (z0 : PySem.W.nsIn K mainGlobals "range" = some none)
    (z1 : PySem.W.nsIn K mainGlobals "len" = some none)
    (z2 : PySem.W.nsIn K mainGlobals "isinstance" = some none)
    (z3 : PySem.W.nsIn K mainGlobals "list" = some none)
    (z4 : PySem.W.nsIn K mainGlobals "enumerate" = some none)
    (z5 : PySem.W.nsIn K mainGlobals "tuple" = some none)
    (z6 : PySem.W.nsIn K mainGlobals "bool" = some none)
    (z7 : PySem.W.nsIn K mainGlobals "int" = some none)
    : ∃ fd : FuncData, (∀ (s : Shared) (v : Value), BindsTo s fd ⟨[v], []⟩ [("_law_script", v)]) ∧ ∀ base : Heap, K.In base → base.Ns mainGlobals mg → FnOk l.prog w K mg base CX0 3 fa fd ["_law_script"] (spLaw K) := by
  have e := hfa.symm.trans (PySem.W.mg_of X G a5)
  cases e
  have F0 := fun_mk (st := s_all_settings) l0 c0 k0
  have B0 := F0.binds (ps := ["n"]) fun _ _ _ _ _ _ us hl => match us, hl with | [_], _ => rfl
  have F1 := fun_mk (st := s__law_feed) l1 c1 k1
  have B1 := F1.binds (ps := ["_law_script", "_law_k"]) fun _ _ _ _ _ _ us hl => match us, hl with | [_, _], _ => rfl
  have F2 := fun_mk (st := s__law_take) l2 c2 k2
  have B2 := F2.binds (ps := ["_law_feed_here", "_law_many"]) fun _ _ _ _ _ _ us hl => match us, hl with | [_, _], _ => rfl
  have F3 := fun_mk (st := s__law_by_twos) l3 c3 k3
  have B3 := F3.binds (ps := ["_law_k", "_law_n"]) fun _ _ _ _ _ _ us hl => match us, hl with | [_, _], _ => rfl
  have F4 := fun_mk (st := s__law_right) l4 c4 k4
  have B4 := F4.binds (ps := ["_law_found", "_law_n"]) fun _ _ _ _ _ _ us hl => match us, hl with | [_, _], _ => rfl
  have F5 := fun_mk (st := s_law) l5 c5 k5
  have B5 := F5.binds (ps := ["_law_script"]) fun _ _ _ _ _ _ us hl => match us, hl with | [_], _ => rfl
  let T : Tx K mg := {
    a_all_settings := f0,
    d_all_settings := _,
    F_all_settings := F0,
    m_all_settings := PySem.W.mg_of X G a0,
    B_all_settings := B0,
    a__law_feed := f1,
    d__law_feed := _,
    F__law_feed := F1,
    m__law_feed := PySem.W.mg_of X G a1,
    B__law_feed := B1,
    a__law_take := f2,
    d__law_take := _,
    F__law_take := F2,
    m__law_take := PySem.W.mg_of X G a2,
    B__law_take := B2,
    a__law_by_twos := f3,
    d__law_by_twos := _,
    F__law_by_twos := F3,
    m__law_by_twos := PySem.W.mg_of X G a3,
    B__law_by_twos := B3,
    a__law_right := f4,
    d__law_right := _,
    F__law_right := F4,
    m__law_right := PySem.W.mg_of X G a4,
    B__law_right := B4,
    a_law := fa,
    d_law := _,
    F_law := F5,
    m_law := PySem.W.mg_of X G a5,
    B_law := B5,
    b_range := PySem.W.mg_none_of X G z0,
    b_len := PySem.W.mg_none_of X G z1,
    b_isinstance := PySem.W.mg_none_of X G z2,
    b_list := PySem.W.mg_none_of X G z3,
    b_enumerate := PySem.W.mg_none_of X G z4,
    b_tuple := PySem.W.mg_none_of X G z5,
    b_bool := PySem.W.mg_none_of X G z6,
    b_int := PySem.W.mg_none_of X G z7 }
  exact ⟨PySem.W.fnOf "law" "law" (defArgs s_law) (defBody s_law) (defScope s_law) .none kV5 dc5 pm5 an5 cd5 ct5, fun s v => .of_eq rfl, fun base _ _ => ok_law T⟩
theorem walk {l : PySem.W.OpenLaw} {q : Program} {loose : List Str} {XP : (Str → Option Value) → Heap → Prop} {YP : World → Heap → Prop} {d : DefRec} {K : Params → PySem.W.Frag} (hn : l.most = some 63) (hdf : d.params.defaults = [])
    (hY : ∀ (w : World) (h : Heap), YP w h → (K w.params).In h)
    (F : ∀ (w : World) (mg : Str → Option Value) (fa : Addr) (h : Heap), (K w.params).In h → h.Ns mainGlobals mg → mg d.name = some (.ref fa) →
      ∃ fd : FuncData, (∀ (s : Shared) (u : Value), BindsTo s fd ⟨[u], []⟩ [("_law_script", u)]) ∧ ∀ base : Heap, (K w.params).In base → base.Ns mainGlobals mg → FnOk l.prog w (K w.params) mg base CX0 3 fa fd ["_law_script"] (spLaw (K w.params))) :
    PySem.W.WalkO q loose XP YP l.row.toRowW d [] (fun f vs => PySem.call f vs) :=
  L2.walk_of (n := 63) (k := 3) (x := "_law_script") (CX := fun _ => CX0) (sp := fun w => spLaw (K w.params)) hn (by decide) hdf ⟨rfl, by decide, by decide⟩ hY F (fun _ _ a ns hl _ hS => ⟨a, ns, rfl, hS, hl, fun _ => rfl⟩) fun _ _ _ _ _ z => z
end My

open PySem PySem.W PyProof.Rows in
set_option maxRecDepth 100000 in
set_option maxHeartbeats 0 in
theorem PySem.Challenge.cw_asktally_k10_settings_in_order_holds : PySem.Challenge.rw_asktally_k10_settings_in_order.Holds := by
  w_on; o_law; k_head; (case hw => w_witness2)
  k_fill
  refine My.walk (l := PySem.Challenge.rw_asktally_k10_settings_in_order) rfl rfl (fun w h Y => PySem.W.kIn_of Y) ?F
  case F =>
    intro w mg fa h KX G hmg
    refine' My.all_mk KX G hmg ?a0 ?l0 ?c0 ?k0 ?a1 ?l1 ?c1 ?k1 ?a2 ?l2 ?c2 ?k2 ?a3 ?l3 ?c3 ?k3 ?a4 ?l4 ?c4 ?k4 ?a5 ?l5 ?c5 ?k5 ?z0 ?z1 ?z2 ?z3 ?z4 ?z5 ?z6 ?z7
    (case a0 => k_is)
    (case l0 => k_is)
    (case c0 => k_is)
    (case k0 => k_is)
    (case a1 => k_is)
    (case l1 => k_is)
    (case c1 => k_is)
    (case k1 => k_is)
    (case a2 => k_is)
    (case l2 => k_is)
    (case c2 => k_is)
    (case k2 => k_is)
    (case a3 => k_is)
    (case l3 => k_is)
    (case c3 => k_is)
    (case k3 => k_is)
    (case a4 => k_is)
    (case l4 => k_is)
    (case c4 => k_is)
    (case k4 => k_is)
    (case a5 => k_is)
    (case l5 => k_is)
    (case c5 => k_is)
    (case k5 => k_is)
    (case z0 => k_is)
    (case z1 => k_is)
    (case z2 => k_is)
    (case z3 => k_is)
    (case z4 => k_is)
    (case z5 => k_is)
    (case z6 => k_is)
    (case z7 => k_is)
#print axioms PySem.Challenge.cw_asktally_k10_settings_in_order_holds
