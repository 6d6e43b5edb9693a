import PyProof.Rows.All
import Wide.All
import OpenK.AllK
import Wide.FinOn
import HandS.ForMost
import HandS.Wide
import HandS.Flow
import HandS.IsInst
import HandS.TupAny
import HandS.Conv
import HandS.Zip
import HandS.Rev
import HandS.RevTup
import PySem.Challenge.RW_asktally_k16_fields
set_option Elab.async false
set_option maxRecDepth 100000
set_option maxHeartbeats 4000000
/-! rules by the values' kinds, and readings taken step by step -/
namespace SX
open PySem PySem.Spec PyProof.Rows L2
/-! ### rules whose reading looks at the values themselves -/
section
variable {X : Cx}
def xAdd (K : PySem.W.Frag) : R2 := fun x y H Q => match x, y with
  | .int i, .int j => Q (.int (i + j)) H
  | .str a, .str b => a.length + b.length ≤ sizeLine ∧ Q (.str (a ++ b)) H
  | .int i, .bl k => Q (.int (i + b2i k)) H
  | .ref a, .ref b => rCat (.ref a) (.ref b) H Q ∨ rCatA K (.ref a) (.ref b) H Q
  | _, _ => False
theorem op_xAdd : OpR X (binaryOp .Add) (xAdd X.K) := by
  intro pins s σ H x y v u Q I rx ry h
  cases x <;> cases y <;> first
    | exact False.elim h
    | exact op_add pins s σ H _ _ v u Q I rx ry ⟨_, _, rfl, rfl, h⟩
    | exact op_add_str pins s σ H _ _ v u Q I rx ry ⟨_, _, rfl, rfl, h.1, h.2⟩
    | exact op_add_ib pins s σ H _ _ v u Q I rx ry ⟨_, _, rfl, rfl, h⟩
    | exact (op_cat.or op_catA) pins s σ H _ _ v u Q I rx ry h
def xMul : R2 := fun x y H Q => match x, y with
  | .int i, .int j => (CMul i j ∨ CMulW i j) ∧ Q (.int (i * j)) H
  | .ref a, .int k => rRep (.ref a) (.int k) H Q
  | _, _ => False
theorem op_xMul : OpR X (binaryOp .Mult) xMul := by
  intro pins s σ H x y v u Q I rx ry h
  cases x <;> cases y <;> first
    | exact False.elim h
    | exact h.1.elim (fun c => op_mul pins s σ H _ _ v u Q I rx ry ⟨_, _, rfl, rfl, c, h.2⟩) (fun c => op_mulW pins s σ H _ _ v u Q I rx ry ⟨_, _, rfl, rfl, c, h.2⟩)
    | exact op_rep pins s σ H _ _ v u Q I rx ry h
def xEq (K : PySem.W.Frag) : R2 := fun x y H Q => match x, y with
  | .int i, .int j => Q (.bl (decide (i = j))) H
  | .str i, .str j => Q (.bl (decide (i = j))) H
  | .bl i, .bl j => Q (.bl (decide (i = j))) H
  | .ref a, .ref b => rEqD K (.ref a) (.ref b) H Q
  | x, y => scal x y = true ∧ Q (.bl (decide (x = y))) H
theorem op_xEq (hu : X.A.units + 64 < cLine) : OpR X (compareOp .Eq) (xEq X.K) := by
  intro pins s σ H x y v u Q I rx ry h
  have g : ∀ {p q : Prop} [Decidable p] [Decidable q], (p ↔ q) → Q (.bl (decide p)) H → Q (.bl (decide q)) H := fun e q => by
    rw [← decide_eq_decide.mpr e]; exact q
  cases x <;> cases y <;> first
    | exact op_eqD hu pins s σ H _ _ v u Q I rx ry h
    | exact op_eq pins s σ H _ _ v u Q I rx ry h
    | exact op_eq pins s σ H _ _ v u Q I rx ry ⟨rfl, g (by simp) h⟩
def xNe (K : PySem.W.Frag) : R2 := fun x y H Q => match x, y with
  | .int i, .int j => Q (.bl (!decide (i = j))) H
  | .str i, .str j => Q (.bl (!decide (i = j))) H
  | .bl i, .bl j => Q (.bl (!decide (i = j))) H
  | .ref a, .ref b => rNeD K (.ref a) (.ref b) H Q
  | x, y => scal x y = true ∧ Q (.bl (!decide (x = y))) H
theorem op_xNe (hu : X.A.units + 64 < cLine) : OpR X (compareOp .NotEq) (xNe X.K) := by
  intro pins s σ H x y v u Q I rx ry h
  have g : ∀ {p q : Prop} [Decidable p] [Decidable q], (p ↔ q) → Q (.bl (!decide p)) H → Q (.bl (!decide q)) H := fun e q => by
    rw [← decide_eq_decide.mpr e]; exact q
  cases x <;> cases y <;> first
    | exact op_neD hu pins s σ H _ _ v u Q I rx ry h
    | exact op_ne pins s σ H _ _ v u Q I rx ry h
    | exact op_ne pins s σ H _ _ v u Q I rx ry ⟨rfl, g (by simp) h⟩
def xIn (K : PySem.W.Frag) : R2 := fun x y H Q => match x, y with
  | .str c, .str z => ∃ n, c = ⟨#[n]⟩ ∧ Q (.bl (decide (n ∈ z.cps.toList))) H
  | x, y => rIn K false x y H Q
theorem op_xIn : OpR X (compareOp .In) (xIn X.K) := by
  intro pins s σ H x y v u Q I rx ry h
  cases x <;> cases y <;> first
    | exact op_in_seq pins s σ H _ _ v u Q I rx ry h
    | exact (by
        obtain ⟨n, e, q⟩ := h
        subst e
        exact op_in_sign pins s σ H _ _ v u Q I rx ry ⟨n, _, rfl, rfl, q⟩)
def xNotIn (K : PySem.W.Frag) : R2 := fun x y H Q => match x, y with
  | .str c, .str z => ∃ n, c = ⟨#[n]⟩ ∧ Q (.bl (!decide (n ∈ z.cps.toList))) H
  | x, y => rIn K true x y H Q
theorem op_xNotIn : OpR X (compareOp .NotIn) (xNotIn X.K) := by
  intro pins s σ H x y v u Q I rx ry h
  cases x <;> cases y <;> first
    | exact op_notIn_seq pins s σ H _ _ v u Q I rx ry h
    | exact (by
        obtain ⟨n, e, q⟩ := h
        subst e
        exact op_notIn_sign pins s σ H _ _ v u Q I rx ry ⟨n, _, rfl, rfl, q⟩)
/-- a[b] -/
def xIx (K : PySem.W.Frag) : R2 := fun x y H Q => match x, y with
  | .str z, .int i => z.length ≤ sizeLine ∧ ∃ c, atI z.cps.toList i = some c ∧ Q (.str ⟨#[c]⟩) H
  | .ref p, .int i => ∃ xs v, (SqL K H p xs ∨ SqT K H p xs) ∧ atI xs i = some v ∧ Q v H
  | _, _ => False
theorem ix_x : IxR X (xIx X.K) := by
  intro value slice pins s σ H x y v u Q I rx ry h hs
  cases x <;> cases y <;> first
    | exact False.elim h
    | exact (by
        obtain ⟨hz, c, e, q⟩ := h
        exact ix_str value slice pins s σ H _ _ v u Q I rx ry ⟨_, _, c, rfl, rfl, hz, e, q⟩ hs)
    | exact (by
        obtain ⟨xs, w, hq, e, q⟩ := h
        rcases hq with hq | hq
        · exact ix_list value slice pins s σ H _ _ v u Q I rx ry ⟨_, xs, _, w, rfl, rfl, hq, e, q⟩ hs
        · exact ix_tup value slice pins s σ H _ _ v u Q I rx ry ⟨_, xs, _, w, rfl, rfl, hq, e, q⟩ hs)
/-- len -/
def xLen (K : PySem.W.Frag) : List V → Hp → VK → Prop := fun vs H Q => match vs with
  | [.str y] => y.length ≤ sizeLine ∧ Q (.int y.length) H
  | [.ref p] => ∃ xs, (SqL K H p xs ∨ SqT K H p xs) ∧ Q (.int (xs.length : Int)) H
  | _ => False
theorem call_xLen : CallR X (.builtin "len") (xLen X.K) := by
  intro pins s σ H xs us Q I r h
  match xs, h with
  | [.str y], h => exact call_len_str pins s σ H _ us Q I r ⟨y, rfl, h.1, h.2⟩
  | [.ref p], ⟨ys, hq, q⟩ => exact call_len_seq pins s σ H _ us Q I r ⟨p, ys, rfl, hq, q⟩
end
/-! ### readings, step by step -/
section
variable {σ : L2.St} {H : Hp} {K : PySem.W.Frag} {ta tb te : TE} {t u : TS} {c c' : TT} {D : Ends} {Q : VK} {QB : Bool → Hp → Prop} {QA : List V → Hp → Prop} {v : V} {r : R2} {i : Nat}
theorem seq (q : t { D with nx := u D } σ H) : tSeq t u D σ H := q
theorem asg (q : te σ H fun x H1 => D.nx (σ.set i (some x)) H1) : tAsg te (gName i) D σ H := q
theorem ret (q : te σ H D.rt) : tRet te D σ H := q
theorem retN (q : D.rt .non H) : tRetN D σ H := q
theorem drop (q : te σ H fun _ H1 => D.nx σ H1) : tDrop te D σ H := q
theorem next (q : D.nx σ H) : tNext D σ H := q
theorem brk (q : D.bk σ H) : tBreak D σ H := q
theorem cnt (q : D.ct σ H) : tCont D σ H := q
theorem ifs (q : c σ H fun b H1 => if b = true then t D σ H1 else u D σ H1) : tIfS c t u D σ H := q
theorem var (h : σ[i]? = some (some v)) (q : Q v H) : tVar i σ H Q := ⟨v, h, q⟩
theorem cst (q : Q v H) : tC v σ H Q := q
theorem op (q : ta σ H fun x H1 => tb σ H1 fun y H2 => r x y H2 Q) : tOp r ta tb σ H Q := q
theorem un {r1 : V → Hp → VK → Prop} (q : ta σ H fun x H1 => r1 x H1 Q) : tUn r1 ta σ H Q := q
theorem nil (q : QA [] H) : tNil σ H QA := q
theorem cons {tr : TA} (q : ta σ H fun x H1 => tr σ H1 fun xs H2 => QA (x :: xs) H2) : tCons ta tr σ H QA := q
theorem cb {r2 : List V → Hp → VK → Prop} {tr : TA} (q : tr σ H fun vs H1 => r2 vs H1 Q) : tCB r2 tr σ H Q := q
theorem call {sp : Sp} {dvs : List V} {E : XK} {tr : TA} (q : tr σ H fun vs H1 => sp (vs ++ dvs) H1 Q E) : tCall sp dvs E tr σ H Q := q
theorem tst (q : te σ H fun x H' => ∃ k, x = .bl k ∧ QB k H') : tTest te σ H QB := q
theorem tstB (q : te σ H fun x H' => ∃ k, x = .bl k ∧ QB k H') : tB te σ H QB := q
theorem bl {b : Bool} {QP : Bool → Prop} (q : QP b) : ∃ k, V.bl b = .bl k ∧ QP k := ⟨b, rfl, q⟩
theorem and (q : c σ H fun b H1 => if b = true then c' σ H1 QB else QB false H1) : tAnd c c' σ H QB := q
theorem or (q : c σ H fun b H1 => if b = true then QB true H1 else c' σ H1 QB) : tOr c c' σ H QB := q
theorem not (q : c σ H fun b H1 => QB (!b) H1) : tNot c σ H QB := q
theorem andV (q : ta σ H fun x H1 => ∃ c, x = .bl c ∧ if c = true then tb σ H1 Q else Q (.bl false) H1) : tAndV ta tb σ H Q := q
theorem orV (q : ta σ H fun x H1 => ∃ c, x = .bl c ∧ if c = true then Q (.bl true) H1 else tb σ H1 Q) : tOrV ta tb σ H Q := q
theorem notV (q : ta σ H fun x H1 => ∃ c, x = .bl c ∧ Q (.bl (!c)) H1) : tNotV ta σ H Q := q
theorem ifE (q : c σ H fun b H1 => if b = true then ta σ H1 Q else tb σ H1 Q) : tIf c ta tb σ H Q := q
theorem chain {r' : R2} {tc : TE} (q : ta σ H fun x H1 => tb σ H1 fun y H2 => r x y H2 fun z H3 => ∃ k, z = .bl k ∧ (if k = true then tc σ H3 fun w' H4 => r' y w' H4 Q else Q (.bl false) H3)) : tChain r r' ta tb tc σ H Q := q
theorem tup {tr : TA} (q : tr σ H fun xs H1 => xs.length ≤ sizeLine ∧ ∀ p, H1 p = none → Q (.ref p) (upd H1 p (.tup xs))) : tTup tr σ H Q := q
theorem lst {tr : TA} (q : tr σ H fun xs H1 => xs.length ≤ sizeLine ∧ ∀ p, H1 p = none → Q (.ref p) (upd H1 p (.lst xs))) : tLst tr σ H Q := q
theorem bm {T : String} {r3 : V → List V → Hp → VK → Prop} {tr : TA} (q : ta σ H fun x H1 => tyV K T x H1 ∧ tr σ H1 fun xs H2 => r3 x xs H2 Q) : tBM K T r3 ta tr σ H Q := q
theorem bm0 {T : String} {r3 : V → List V → Hp → VK → Prop} (q : ta σ H fun x H1 => tyV K T x H1 ∧ r3 x [] H1 Q) : tBM0 K T r3 ta σ H Q := q
theorem m0 {r3 : V → List V → Hp → VK → Prop} (q : ta σ H fun x H1 => (∃ a, x = .str a) ∧ r3 x [] H1 Q) : tM0 r3 ta σ H Q := q
theorem m1 {r3 : V → List V → Hp → VK → Prop} (q : ta σ H fun x H1 => (∃ a, x = .str a) ∧ tb σ H1 fun y H2 => r3 x [y] H2 Q) : tM1 r3 ta tb σ H Q := q
theorem sl {r3 : V → Option Int → Option Int → Hp → VK → Prop} {tl th : TO} (q : te σ H fun x H1 => tl σ H1 fun l H2 => th σ H2 fun u H3 => r3 x l u H3 Q) : tSl r3 te tl th σ H Q := q
theorem noPart {QO : Option Int → Hp → Prop} (q : QO none H) : tNoPart σ H QO := q
theorem part {QO : Option Int → Hp → Prop} (q : te σ H fun x H1 => ∃ i, x = .int i ∧ QO (some i) H1) : tPart te σ H QO := q
theorem int1 {QI : Int → Prop} {n : Int} (q : QI n) : ∃ i, V.int n = .int i ∧ QI i := ⟨n, rfl, q⟩
theorem int2 {QI : Int → Int → Prop} {n m : Int} (q : QI n m) : ∃ i j, V.int n = .int i ∧ V.int m = .int j ∧ QI i j := ⟨n, m, rfl, rfl, q⟩
theorem add_int {n m : Int} (q : Q (.int (n + m)) H) : xAdd K (.int n) (.int m) H Q := q
theorem add_str {a b : Str} (h : a.length + b.length ≤ sizeLine) (q : Q (.str (a ++ b)) H) : xAdd K (.str a) (.str b) H Q := ⟨h, q⟩
theorem eq_int {n m : Int} (q : Q (.bl (decide (n = m))) H) : xEq K (.int n) (.int m) H Q := q
theorem eq_str {n m : Str} (q : Q (.bl (decide (n = m))) H) : xEq K (.str n) (.str m) H Q := q
theorem eq_bl {n m : Bool} (q : Q (.bl (decide (n = m))) H) : xEq K (.bl n) (.bl m) H Q := q
theorem ne_int {n m : Int} (q : Q (.bl (!decide (n = m))) H) : xNe K (.int n) (.int m) H Q := q
theorem ne_str {n m : Str} (q : Q (.bl (!decide (n = m))) H) : xNe K (.str n) (.str m) H Q := q
theorem ne_bl {n m : Bool} (q : Q (.bl (!decide (n = m))) H) : xNe K (.bl n) (.bl m) H Q := q
theorem i0 {g : Int → Int → V} {n m : Int} (q : Q (g n m) H) : rI0 g (.int n) (.int m) H Q := ⟨n, m, rfl, rfl, q⟩
theorem iC {C : Int → Int → Prop} {g : Int → Int → V} {n m : Int} (h : C n m) (q : Q (g n m) H) : rI C g (.int n) (.int m) H Q := ⟨n, m, rfl, rfl, h, q⟩
theorem mul_int {n m : Int} (h : CMul n m ∨ CMulW n m) (q : Q (.int (n * m)) H) : xMul (.int n) (.int m) H Q := ⟨h, q⟩
theorem len_l {p : Addr} {xs : List V} (h : SqL K H p xs) (q : Q (.int (xs.length : Int)) H) : xLen K [.ref p] H Q := ⟨xs, .inl h, q⟩
theorem len_t {p : Addr} {xs : List V} (h : SqT K H p xs) (q : Q (.int (xs.length : Int)) H) : xLen K [.ref p] H Q := ⟨xs, .inr h, q⟩
theorem len_s {y : Str} (h : y.length ≤ sizeLine) (q : Q (.int (y.length : Int)) H) : xLen K [.str y] H Q := ⟨h, q⟩
theorem ix_l {p : Addr} {n : Int} {xs : List V} {v : V} (h : SqL K H p xs) (e : atI xs n = some v) (q : Q v H) : xIx K (.ref p) (.int n) H Q := ⟨xs, v, .inl h, e, q⟩
theorem ix_t {p : Addr} {n : Int} {xs : List V} {v : V} (h : SqT K H p xs) (e : atI xs n = some v) (q : Q v H) : xIx K (.ref p) (.int n) H Q := ⟨xs, v, .inr h, e, q⟩
end
section
variable {σ : L2.St} {H : Hp} {Q : VK} {n m : Int} {QH : Hp → Prop} {D : Ends}
theorem modI (h : 0 < m) (q : Q (.int (n % m)) H) : rI (fun _ j => 0 < j) (fun i j => .int (i % j)) (.int n) (.int m) H Q := ⟨n, m, rfl, rfl, h, q⟩
theorem divI (h : 0 < m ∧ m < 1152921504606846976) (q : Q (.int (n / m)) H) : rI CDivW (fun i j => .int (i / j)) (.int n) (.int m) H Q :=
  ⟨n, m, rfl, rfl, wide_div (b := 60) h.1 (by have := h.2; have := h.1; omega) (by decide) (by decide), q⟩
theorem mulL (h : -18446744073709551616 < n ∧ n < 18446744073709551616) (q : Q (.int (n * m)) H) : xMul (.int n) (.int m) H Q := ⟨.inl (.inl h), q⟩
theorem mulR (h : -18446744073709551616 < m ∧ m < 18446744073709551616) (q : Q (.int (n * m)) H) : xMul (.int n) (.int m) H Q := ⟨.inl (.inr h), q⟩
theorem powI (h : 0 ≤ m ∧ m ≤ 1000000 ∧ n.natAbs < 2 ^ 64) (q : Q (.int (n ^ m.toNat)) H) : rI CPow (fun i j => .int (i ^ j.toNat)) (.int n) (.int m) H Q := ⟨n, m, rfl, rfl, h, q⟩
theorem setL {p : Addr} {xs : List V} {j : Nat} {v : V} (h : H p = some (.lst xs)) (e : ixN xs.length n = some j) (q : QH (upd H p (.lst (xs.set j v)))) : rSetL (.ref p) (.int n) v H QH := ⟨p, xs, n, j, rfl, rfl, h, e, q⟩
theorem gsub {ta tb : TE} {ts : TSet} {v : V} {QS : L2.St → Hp → Prop} (q : ta σ H fun o H1 => tb σ H1 fun i H2 => ts o i v H2 fun H3 => QS σ H3) : gSub ta tb ts v σ H QS := q
theorem gname {i : Nat} {v : V} {QS : L2.St → Hp → Prop} (q : QS (σ.set i (some v)) H) : gName i v σ H QS := q
theorem asgG {te : TE} {g : TG} (q : te σ H fun x H1 => g x σ H1 D.nx) : tAsg te g D σ H := q
theorem par {i j : Nat} {ta : TA} (q : ta σ H fun vs H1 => ∃ v w, vs = [v, w] ∧ D.nx ((σ.set i (some v)).set j (some w)) H1) : tPar i j ta D σ H := q
theorem par2 {x y : V} {N : V → V → Prop} (q : N x y) : ∃ v w, [x, y] = [v, w] ∧ N v w := ⟨x, y, rfl, q⟩
theorem nxM {A B C E} (q : A σ H) : Ends.nx ⟨A, B, C, E⟩ σ H := q
theorem rtM {A B C E} {v : V} (q : B v H) : Ends.rt ⟨A, B, C, E⟩ v H := q
theorem bkM {A B C E} (q : C σ H) : Ends.bk ⟨A, B, C, E⟩ σ H := q
theorem ctM {A B C E} (q : E σ H) : Ends.ct ⟨A, B, C, E⟩ σ H := q
theorem aug {i : Nat} {te : TE} {ti : TIp} {v : V} (h : σ[i]? = some (some v)) (q : te σ H fun y H1 => ti v y H1 fun z H2 => D.nx (σ.set i (some z)) H2) : tAug i te ti D σ H := ⟨v, h, q⟩
theorem ipi {f : Int → Int → Int} (q : Q (.int (f n m)) H) : ipI f (.int n) (.int m) H Q := ⟨n, m, rfl, rfl, q⟩
theorem isiV {K : PySem.W.Frag} {x : V} {c : String} {t : Value} {b : Bool} (ty : TyX K H x t) (k : PySem.W.kitOne K t (.type c) = some b) (q : Q (.bl b) H) : rIsi K [x, .ty c] H Q := ⟨x, .ty c, t, .type c, b, rfl, .ty c, ty, k, q⟩
theorem isi_int_int {K : PySem.W.Frag} (q : Q (.bl true) H) : rIsi K [.int n, .ty "int"] H Q := isiV (.base (.int n)) (kit_ty (a := "int") (b := "int") (by decide +kernel)) q
theorem isi_int_bool {K : PySem.W.Frag} (q : Q (.bl false) H) : rIsi K [.int n, .ty "bool"] H Q := isiV (.base (.int n)) (kit_ty (a := "int") (b := "bool") (by decide +kernel)) q
theorem isi_bl_bool {K : PySem.W.Frag} {b : Bool} (q : Q (.bl true) H) : rIsi K [.bl b, .ty "bool"] H Q := isiV (.base (.bl b)) (kit_ty (a := "bool") (b := "bool") (by decide +kernel)) q
theorem isi_lst_list {K : PySem.W.Frag} {a : Addr} {xs : List V} (h : H a = some (.lst xs)) (q : Q (.bl true) H) : rIsi K [.ref a, .ty "list"] H Q := isiV (.base (.lst h)) (kit_ty (a := "list") (b := "list") (by decide +kernel)) q
theorem isi_tup_tuple {K : PySem.W.Frag} {a : Addr} {xs : List V} (h : H a = some (.tup xs)) (q : Q (.bl true) H) : rIsi K [.ref a, .ty "tuple"] H Q := isiV (.base (.tup h)) (kit_ty (a := "tuple") (b := "tuple") (by decide +kernel)) q
theorem max2 {i j : Int} {QP : Int → Int → Prop} (q : QP i j) : ∃ a b, [V.int i, V.int j] = [.int a, .int b] ∧ QP a b := ⟨i, j, rfl, q⟩
theorem rng1 {QP : Int → Prop} (h : -(2 ^ 62) ≤ n ∧ n < 2 ^ 62) (q : QP n) : ∃ j : Int, [V.int n] = [.int j] ∧ -(2 ^ 62) ≤ j ∧ j < 2 ^ 62 ∧ QP j := ⟨n, rfl, h.1, h.2, q⟩
theorem rng2 {QP : Int → Int → Prop} (h : -(2 ^ 62) ≤ n ∧ n < 2 ^ 62 ∧ -(2 ^ 62) ≤ m ∧ m < 2 ^ 62) (q : QP n m) : ∃ i j : Int, [V.int n, V.int m] = [.int i, .int j] ∧ (-(2 ^ 62) ≤ i ∧ i < 2 ^ 62 ∧ -(2 ^ 62) ≤ j ∧ j < 2 ^ 62) ∧ QP i j := ⟨n, m, rfl, h, q⟩
theorem gtup {K : PySem.W.Frag} {t : TGs} {p : Addr} {xs : List V} {k : Nat} {QS : L2.St → Hp → Prop} (h : SqT K H p xs) (e : xs.length = k) (q : t xs σ H QS) : gTup K k t (.ref p) σ H QS := ⟨p, xs, rfl, h, e, q⟩
theorem gcons {t : TG} {u : TGs} {v : V} {r : List V} {QS : L2.St → Hp → Prop} (q : t v σ H fun σ' H' => u r σ' H' QS) : gCons t u (v :: r) σ H QS := ⟨v, r, rfl, q⟩
theorem gnil {QS : L2.St → Hp → Prop} (q : QS σ H) : gNil [] σ H QS := ⟨rfl, q⟩
theorem forI {wi : TI} {g : TG} {tb : TS} (q : wi σ H fun J H1 => ∃ W : Nat → Nat → L2.St → Hp → Prop, (∃ m, W 0 m σ H1) ∧ ∀ i m σ H, W i m σ H →
  (J.stop i H ∧ D.nx σ H) ∨ (J.go i H ∧ ∃ N : L2.St → Hp → Prop, (∀ σ' H', N σ' H' → ∃ m', m' < m ∧ W (i + 1) m' σ' H') ∧ ∀ x H', J.yld i H x H' → g x σ H' fun σ2 H2 => tb { D with nx := N, ct := N, bk := D.nx } σ2 H2)) : tFor wi g tb D σ H := q
theorem irng1 {ta : TA} {R : It → Hp → Prop} (q : ta σ H fun vs H1 => ∃ j : Int, vs = [.int j] ∧ -(2 ^ 62) ≤ j ∧ j < 2 ^ 62 ∧ R (Itr 0 j.toNat) H1) : iRng1 ta σ H R := q
theorem irng2 {ta : TA} {R : It → Hp → Prop} (q : ta σ H fun vs H1 => ∃ i j : Int, vs = [.int i, .int j] ∧ (-(2 ^ 62) ≤ i ∧ i < 2 ^ 62 ∧ -(2 ^ 62) ≤ j ∧ j < 2 ^ 62) ∧ R (Itr i (j - i).toNat) H1) : iRng2 ta σ H R := q
theorem ilst {K : PySem.W.Frag} {te : TE} {R : It → Hp → Prop} (q : te σ H fun x H1 => ∃ a, x = .ref a ∧ (∃ xs, SqL K H1 a xs) ∧ R (Itl K a) H1) : iList K te σ H R := q
/-- while: a word and a measure; behind a test that holds: ⟨_, fun _ _ x => x, ?_⟩ -/
theorem whl {c : TT} {tb : TS} (Pv : L2.St → Hp → Prop) (mu : L2.St → Hp → Nat) (h0 : Pv σ H)
    (hs : ∀ σ H, Pv σ H → c σ H fun b H1 => if b = true then ∃ N : L2.St → Hp → Prop, (∀ σ' H', N σ' H' → Pv σ' H' ∧ mu σ' H' < mu σ H) ∧ tb { D with nx := N, ct := N, bk := D.nx } σ H1 else D.nx σ H1) : tWhile c tb D σ H := by
  refine ⟨fun m σ H => ∀ k, m = k → (m = mu σ H ∧ Pv σ H), ⟨_, fun _ _ => ⟨rfl, h0⟩⟩, ?_⟩
  intro m σ H w
  obtain ⟨e, p⟩ := w m rfl
  subst e
  have e : (fun (b : Bool) (H1 : Hp) => if b = true then ∃ N : L2.St → Hp → Prop, (∀ σ' H', N σ' H' → Pv σ' H' ∧ mu σ' H' < mu σ H) ∧ tb { D with nx := N, ct := N, bk := D.nx } σ H1 else D.nx σ H1)
      = (fun (b : Bool) (H1 : Hp) => if b = true then ∃ N : L2.St → Hp → Prop, (∀ σ' H', N σ' H' → ∃ m', m' < mu σ H ∧ ∀ k, m' = k → (m' = mu σ' H' ∧ Pv σ' H')) ∧ tb { D with nx := N, ct := N, bk := D.nx } σ H1 else D.nx σ H1) := by
    funext b H1
    have e2 : (∃ N : L2.St → Hp → Prop, (∀ σ' H', N σ' H' → Pv σ' H' ∧ mu σ' H' < mu σ H) ∧ tb { D with nx := N, ct := N, bk := D.nx } σ H1)
        = (∃ N : L2.St → Hp → Prop, (∀ σ' H', N σ' H' → ∃ m', m' < mu σ H ∧ ∀ k, m' = k → (m' = mu σ' H' ∧ Pv σ' H')) ∧ tb { D with nx := N, ct := N, bk := D.nx } σ H1) := by
      apply propext
      constructor
      · rintro ⟨N, h, q⟩
        exact ⟨N, fun σ' H' n => ⟨mu σ' H', (h σ' H' n).2, fun _ _ => ⟨rfl, (h σ' H' n).1⟩⟩, q⟩
      · rintro ⟨N, h, q⟩
        refine ⟨N, fun σ' H' n => ?_, q⟩
        obtain ⟨m', hm, w'⟩ := h σ' H' n
        obtain ⟨e', p'⟩ := w' m' rfl
        exact ⟨p', by rw [← e']; exact hm⟩
    rw [e2]
  have h := hs σ H p
  rw [e] at h
  exact h
end
theorem ifD {p A B : Prop} [Decidable p] (h1 : p → A) (h2 : ¬ p → B) : if decide p = true then A else B := by
  by_cases h : p
  · rw [if_pos (decide_eq_true h)]; exact h1 h
  · rw [if_neg (by simpa using h)]; exact h2 h
theorem ifN {p A B : Prop} [Decidable p] (h1 : ¬ p → A) (h2 : p → B) : if (!decide p) = true then A else B := by
  by_cases h : p
  · rw [if_neg (by simpa using h)]; exact h2 h
  · rw [if_pos (by simpa using h)]; exact h1 h
theorem ifP {p A B : Prop} [Decidable p] (h : p) (q : A) : if decide p = true then A else B := by
  rw [if_pos (decide_eq_true h)]; exact q
theorem ifM {p A B : Prop} [Decidable p] (h : ¬ p) (q : B) : if decide p = true then A else B := by
  rw [if_neg (by simpa using h)]; exact q
theorem ifNP {p A B : Prop} [Decidable p] (h : p) (q : B) : if (!decide p) = true then A else B := by
  rw [if_neg (by simpa using h)]; exact q
theorem ifNM {p A B : Prop} [Decidable p] (h : ¬ p) (q : A) : if (!decide p) = true then A else B := by
  rw [if_pos (by simpa using h)]; exact q
theorem ifNT {A B : Prop} (q : B) : if (!true) = true then A else B := q
theorem ifNF {A B : Prop} (q : A) : if (!false) = true then A else B := by
  show if true = true then A else B
  rw [if_pos rfl]; exact q
end SX

set_option Elab.async false
set_option maxRecDepth 100000
set_option maxHeartbeats 4000000
/-! a new list of a list taken backward -/
namespace LRev
open PySem PySem.Spec PyProof.Rows L2 RT
section
variable {prog : Program} {w : World} {A : Around} {E : Value → Shared → Prop} {s : Shared}
theorem extend_rev {R : Result → Shared → Prop} {it l : Addr} {items : Array Value} (hh : A.handled = none) (hit : s.heap.IsRevIter it l ((items.size : Int) - 1)) (hl : s.heap.IsList l items) (hne : l ≠ it) (hn : items.size ≤ sizeLine)
    (S : Addr) (res : Value) (c0 : Nat) (hSi : S ≠ it) (hSl : S ≠ l) (hS : s.heap.get? S = some { cls := .type "list", data := .seq #[] c0 })
    (hR : ∀ h' tk acc' c', (∀ b o, b ≠ S → b ≠ it → s.heap.get? b = some o → h'.get? b = some o) → h'.get? S = some { cls := .type "list", dict := none, data := .seq acc' c', slots := #[] } →
      ItemsOf (fun i v => items[items.size - 1 - i]? = some v) acc' items.size → R (.ok (.ret res)) { s with heap := h', toks := tk }) :
    wpAny (model prog w) A.in1 (Builtin.List.listExtendWith (.ref S) (.ref it) res)
      (fun fin s' => match fin with | .done f => R (.ok f) s' | .again c' => c'.quiet = true ∧ codeAny (model prog w) A c' R s') (fun e s' => R (.error e) s') s := by
  have W := (Walks.listRev (prog := prog) (w := w) (A := A.in1) hh it l hne items).toS
  have hSf : S ∉ [it, l] := by simp only [List.mem_cons, List.not_mem_nil, or_false, not_or]; exact ⟨hSi, hSl⟩
  have hT : s.TypeIs (.ref it) "list_reverseiterator" := hit.typeIs
  have h1 : Builtin.List.listSameRef (.ref S) (.ref it) = false := by simp [Builtin.List.listSameRef, hSi]
  unfold Builtin.List.listExtendWith
  refine wpAny_bind (wpAny_typeOf hT ?_)
  rw [if_neg (by rw [h1]; decide)]
  refine wpAny_bind (wpAny_pyIter_revIter hit ?_)
  refine wpAny_bind (wpAny_holding ?_)
  unfold Builtin.List.listLengthHint
  refine wpAny_bind (wpAny_specialOf hT RT.nolen_lri ?_)
  show wpAny _ A.in1 (specialOf (Value.ref it) (Str.ofString "__length_hint__") >>= _) _ _ _
  refine wpAny_bind (wpAny_specialOf hT RT.hint_lri ?_)
  generalize hid : ("list_reverseiterator.__length_hint__" : String) = id0
  wp_delta
  rw [show splitId id0 = some ("list_reverseiterator", "__length_hint__") from by subst hid; decide +kernel]
  subst hid
  refine wpAny_bind (wpAny_isInstance (b := true) hT (by rw [isSubtype_type]; kernel_rfl) ?_)
  refine wpAny_pure ?_
  rw [if_neg (by decide)]
  have e0 : ((items.size : Nat) : Int) - 1 - ((0 : Nat) : Int) = (items.size : Int) - 1 := by omega
  refine wpAny_pure ⟨plainId_quiet F.plain_extend_loop _, codeAny_extend_loopS W hn _ hSf _ items.size 0 _ _ _ rfl (Nat.zero_le _) ⟨Nat.zero_le _, by rw [e0]; exact hit, hl⟩ hS (ItemsOf.nil _) fun s' acc' c' hm hS' hacc => ?_⟩
  rw [Moved.eq_with hm]
  refine hR s'.heap s'.toks acc' c' (fun b o hb hb2 e => hm.heap b o (fun hmem => ?_) e) hS' hacc
  rcases List.mem_cons.mp hmem with e' | hmem
  · exact hb e'
  · exact hb2 (List.mem_singleton.mp hmem)
theorem list_init_rev {R : Result → Shared → Prop} {it l : Addr} {items : Array Value} (hh : A.handled = none) (hit : s.heap.IsRevIter it l ((items.size : Int) - 1)) (hl : s.heap.IsList l items) (hne : l ≠ it) (hn : items.size ≤ sizeLine)
    (S : Addr) (hSi : S ≠ it) (hSl : S ≠ l) (hS : s.heap.get? S = some { cls := .type "list", data := .seq #[] })
    (hR : ∀ h' tk acc' c', (∀ b o, b ≠ S → b ≠ it → s.heap.get? b = some o → h'.get? b = some o) → h'.get? S = some { cls := .type "list", dict := none, data := .seq acc' c', slots := #[] } →
      ItemsOf (fun i v => items[items.size - 1 - i]? = some v) acc' items.size → R (.ok (.ret .none)) { s with heap := h', toks := tk }) :
    wpAny (model prog w) A.in1 (Builtin.«list.__init__» ⟨[.ref S, .ref it], []⟩)
      (fun fin s' => match fin with | .done f => R (.ok f) s' | .again c' => c'.quiet = true ∧ codeAny (model prog w) A c' R s') (fun e s' => R (.error e) s') s := by
  show wpAny _ _ (do let old ← Builtin.List.listItems (.ref S); Builtin.List.listUpdate (.ref S) (fun _ => #[]); letGo old.toList.reverse; Builtin.List.listExtendWith (.ref S) (.ref it) .none) _ _ s
  refine wpAny_bind ?_
  unfold Builtin.List.listItems
  refine wpAny_bind (wpAny_seqItems hS rfl (wpAny_pure ?_))
  show wpAny _ _ (updateSeq S (fun _ => #[]) >>= fun _ => letGo (#[] : Array Value).toList.reverse >>= fun _ => Builtin.List.listExtendWith (.ref S) (.ref it) .none) _ _ s
  refine wpAny_bind (wpAny_updateSeq hS rfl ?_)
  have hS2 := Heap.get?_update_self (Obj.mapSeq (fun _ => (#[] : Array Value))) hS rfl
  have oth : ∀ b o, b ≠ S → s.heap.get? b = some o → (s.heap.update S (Obj.mapSeq (fun _ => (#[] : Array Value)))).get? b = some o :=
    fun b o hb e => (Heap.get?_update_other _ _ (Ne.symm hb)).trans e
  refine wpAny_bind (wpAny_letGo ?_)
  have hl2 : (s.heap.update S (Obj.mapSeq (fun _ => (#[] : Array Value)))).IsList l items := by
    obtain ⟨o, ho, r⟩ := hl
    exact ⟨o, oth l o (Ne.symm hSl) ho, r⟩
  refine extend_rev (s := { s with heap := s.heap.update S (Obj.mapSeq (fun _ => (#[] : Array Value))) }) hh (hit.at fun o e => oth it o (Ne.symm hSi) e) hl2 hne hn S .none _ hSi hSl hS2 fun h' tk acc' c' hk hS' hacc => ?_
  exact hR h' tk acc' c' (fun b o hb hb2 e => hk b o hb hb2 (oth b o hb e)) hS' hacc
theorem call_list_rev {it l : Addr} {items : Array Value} {Q : Value → Shared → Prop} (hh : A.handled = none) (hit : s.heap.IsRevIter it l ((items.size : Int) - 1)) (hl : s.heap.IsList l items) (hne : l ≠ it) (hn : items.size ≤ sizeLine)
    (hQ : ∀ h' tk acc' c', (∀ b o, b ≠ it → s.heap.get? b = some o → h'.get? b = some o) →
      h'.get? s.heap.objs.size = some { cls := .type "list", dict := none, data := .seq acc' c', slots := #[] } → ItemsOf (fun i v => items[items.size - 1 - i]? = some v) acc' items.size → Q (.ref s.heap.objs.size) { s with heap := h', toks := tk }) :
    wpAny (model prog w) A (call (.type "list") [.ref it]) Q E s := by
  refine callType_codes (Q₁ := fun obj s1 => obj = .ref s.heap.objs.size ∧ s1 = { s with heap := s.heap.push { cls := .type "list", data := .seq #[] } }) F.called_list (F.typeCall_list_1 _) F.entry_list_init
    (code_list_new _ ⟨rfl, rfl⟩) fun obj s1 h1 => ?_
  obtain ⟨rfl, rfl⟩ := h1
  have hS : (s.heap.push { cls := .type "list", data := .seq #[] }).get? s.heap.objs.size = some { cls := .type "list", data := .seq #[] } := Heap.get?_push_size _ rfl
  obtain ⟨oi, hoi, _⟩ := id hit
  obtain ⟨ol, hol, _⟩ := id hl
  have hSi : s.heap.objs.size ≠ it := Nat.ne_of_gt (Heap.lt_size hoi)
  have hSl : s.heap.objs.size ≠ l := Nat.ne_of_gt (Heap.lt_size hol)
  refine ⟨⟨_, hS, rfl⟩, F.args_list_init_2 _ _, list_init_rev (A := A.in1) (s := { s with heap := s.heap.push { cls := .type "list", data := .seq #[] } }) hh (hit.at fun o e => Heap.get?_push_of_some _ e) (hl.push _) hne hn _ hSi hSl hS fun h' tk acc' c' hk hS' hacc => ?_⟩
  exact ⟨rfl, hQ h' tk acc' c' (fun b o hb e => hk b o (Nat.ne_of_lt (Heap.lt_size e)) hb (Heap.get?_push_of_some _ e)) hS' hacc⟩
end
section
variable {X : Cx}
def tLstRev (K : PySem.W.Frag) (te : TE) : TE := fun σ H Q => te σ H fun v H1 => ∃ (a : Addr) (xs : List V), v = .ref a ∧ SqL K H1 a xs ∧ ∀ q, H1 q = none → Q (.ref q) (upd H1 q (.lst xs.reverse))
theorem pe_lstRev {e : Expr} {te : TE} {p p2 pos pos2 : Pos} (hc : X.calm = true) (hg : Gl X "list") (hm : X.mg "list" = none) (hg2 : Gl X "reversed") (hm2 : X.mg "reversed" = none) (he : PE X e te)
    (hs : starEach [e] X.env = (false, eval e X.env) :: starEach [] X.env := by rfl)
    (hs2 : starEach [.Call (.Name "reversed" p2) [e] [] pos2] X.env = (false, eval (.Call (.Name "reversed" p2) [e] [] pos2) X.env) :: starEach [] X.env := by rfl) :
    PE X (.Call (.Name "list" p) [.Call (.Name "reversed" p2) [e] [] pos2] [] pos) (tLstRev X.K te) := by
  refine ⟨fun pins s σ H Q I h => ?_⟩
  refine Call_ (ld_blt I hg hm boot_list (PyProof.Rows.callWith_type1 (args_cons (Call_ (ld_blt I hg2 hm2 PyProof.Rows.boot_reversed (PyProof.Rows.callWith_type1 (args_cons (thn (he.run pins s σ H _ I h) fun u s1 ⟨v, H1, I1, r1, q1⟩ => args_nil ?_) hs) hs rfl))) hs2) hs2 rfl))
  obtain ⟨a, xs, ev, hq, q⟩ := q1
  subst ev
  obtain rfl : u = Value.ref a := r1
  obtain ⟨its, rv, p', hz⟩ := I1.list hq
  refine call_reversed_list p'.isList (args_nil ?_)
  have k0 : ∀ b o, s1.heap.get? b = some o → (s1.heap.push (revObj a ((its.toArray.size : Int) - 1))).get? b = some o := fun b o e => Heap.get?_push_of_some _ e
  have I2 : Inv X pins σ H1 { s1 with heap := s1.heap.push (revObj a ((its.toArray.size : Int) - 1)) } := I1.kept (t' := s1.toks) k0
  have hl := p'.isList
  obtain ⟨ol, hol, _⟩ := id hl
  have hne : a ≠ s1.heap.objs.size := Nat.ne_of_lt (Heap.lt_size hol)
  have hn : its.toArray.size ≤ sizeLine := by rw [List.size_toArray, ← rv.length]; exact hz
  refine call_list_rev (s := { s1 with heap := s1.heap.push (revObj a ((its.toArray.size : Int) - 1)) }) (I1.ok.hd hc) ⟨_, Heap.get?_push_size _ rfl, rfl, rfl⟩ (hl.push _) hne hn fun h' tk acc c' hk e' hi => ?_
  have hk1 : ∀ b o, s1.heap.get? b = some o → h'.get? b = some o := fun b o e => hk b o (Nat.ne_of_lt (Heap.lt_size e)) (k0 b o e)
  have sz : s1.heap.objs.size ≤ (s1.heap.push (revObj a ((its.toArray.size : Int) - 1))).objs.size := by rw [Heap.size_push]; exact Nat.le_succ _
  refine ⟨.ref (s1.heap.push (revObj a ((its.toArray.size : Int) - 1))).objs.size, upd H1 (s1.heap.push (revObj a ((its.toArray.size : Int) - 1))).objs.size (.lst xs.reverse),
    I1.laid (t' := tk) hk1 sz (show ObjOk X.prog X.w _ _ _ (.lst xs.reverse) from ⟨by rw [List.length_reverse]; exact hz, acc.toList, c', vals_rev rv hi, ?_⟩), rfl, q _ (I1.hok.fresh sz)⟩
  rw [Array.toArray_toList]
  exact e'
end
end LRev


set_option Elab.async false
set_option maxRecDepth 100000
set_option maxHeartbeats 4000000
namespace My
open PySem PySem.Spec PyProof.Rows L2 SX
abbrev topS (i : Nat) : Stmt := PySem.Challenge.pw_asktally_k16_fields.main.body.getD i (.Pass ⟨0, 0, 0, 0⟩)
abbrev s_is_field : Stmt := topS 1
abbrev N_is_field : List Str := ["number", "part"]
theorem sc_is_field : FnScope N_is_field ["number"] (defScope s_is_field) := ⟨rfl, rfl, rfl, by decide +kernel, rfl, by decide +kernel, by decide +kernel⟩
abbrev s__law_feed : Stmt := topS 3
abbrev N__law_feed : List Str := ["_law_script", "_law_k", "_law_cell", "_law_own"]
theorem sc__law_feed : FnScope N__law_feed ["_law_script", "_law_k"] (defScope s__law_feed) := ⟨rfl, rfl, rfl, by decide +kernel, rfl, by decide +kernel, by decide +kernel⟩
abbrev s__law_take : Stmt := topS 4
abbrev N__law_take : List Str := ["_law_feed_here", "_law_many", "_law_digit", "_law_one"]
theorem sc__law_take : FnScope N__law_take ["_law_feed_here", "_law_many"] (defScope s__law_take) := ⟨rfl, rfl, rfl, by decide +kernel, rfl, by decide +kernel, by decide +kernel⟩
abbrev s__law_is_prime : Stmt := topS 5
abbrev N__law_is_prime : List Str := ["_law_number_here", "_law_k"]
theorem sc__law_is_prime : FnScope N__law_is_prime ["_law_number_here"] (defScope s__law_is_prime) := ⟨rfl, rfl, rfl, by decide +kernel, rfl, by decide +kernel, by decide +kernel⟩
abbrev s__law_prime : Stmt := topS 6
abbrev N__law_prime : List Str := ["_law_feed_here", "_law_most", "_law_number_here"]
theorem sc__law_prime : FnScope N__law_prime ["_law_feed_here", "_law_most"] (defScope s__law_prime) := ⟨rfl, rfl, rfl, by decide +kernel, rfl, by decide +kernel, by decide +kernel⟩
abbrev s__law_number : Stmt := topS 7
abbrev N__law_number : List Str := ["_law_feed_here", "_law_form", "_law_one"]
theorem sc__law_number : FnScope N__law_number ["_law_feed_here"] (defScope s__law_number) := ⟨rfl, rfl, rfl, by decide +kernel, rfl, by decide +kernel, by decide +kernel⟩
abbrev s_law : Stmt := topS 8
abbrev N_law : List Str := ["_law_script", "_law_numbers", "_law_k", "_law_number_here", "_law_found"]
theorem sc_law : FnScope N_law ["_law_script"] (defScope s_law) := ⟨rfl, rfl, rfl, by decide +kernel, rfl, by decide +kernel, by decide +kernel⟩
structure Tx (K : PySem.W.Frag) (mg : Str → Option Value) where
  a_is_field : Addr
  d_is_field : FuncData
  F_is_field : Fun K "is_field" "is_field" s_is_field a_is_field d_is_field
  m_is_field : mg "is_field" = some (.ref a_is_field)
  B_is_field : Binds K d_is_field ["number"] []
  a__law_feed : Addr
  d__law_feed : FuncData
  F__law_feed : Fun K "_law_feed" "_law_feed" s__law_feed a__law_feed d__law_feed
  m__law_feed : mg "_law_feed" = some (.ref a__law_feed)
  B__law_feed : Binds K d__law_feed ["_law_script", "_law_k"] []
  a__law_take : Addr
  d__law_take : FuncData
  F__law_take : Fun K "_law_take" "_law_take" s__law_take a__law_take d__law_take
  m__law_take : mg "_law_take" = some (.ref a__law_take)
  B__law_take : Binds K d__law_take ["_law_feed_here", "_law_many"] []
  a__law_is_prime : Addr
  d__law_is_prime : FuncData
  F__law_is_prime : Fun K "_law_is_prime" "_law_is_prime" s__law_is_prime a__law_is_prime d__law_is_prime
  m__law_is_prime : mg "_law_is_prime" = some (.ref a__law_is_prime)
  B__law_is_prime : Binds K d__law_is_prime ["_law_number_here"] []
  a__law_prime : Addr
  d__law_prime : FuncData
  F__law_prime : Fun K "_law_prime" "_law_prime" s__law_prime a__law_prime d__law_prime
  m__law_prime : mg "_law_prime" = some (.ref a__law_prime)
  B__law_prime : Binds K d__law_prime ["_law_feed_here", "_law_most"] []
  a__law_number : Addr
  d__law_number : FuncData
  F__law_number : Fun K "_law_number" "_law_number" s__law_number a__law_number d__law_number
  m__law_number : mg "_law_number" = some (.ref a__law_number)
  B__law_number : Binds K d__law_number ["_law_feed_here"] []
  a_law : Addr
  d_law : FuncData
  F_law : Fun K "law" "law" s_law a_law d_law
  m_law : mg "law" = some (.ref a_law)
  B_law : Binds K d_law ["_law_script"] []
  b_len : mg "len" = none
  b_range : mg "range" = none
  b_max : mg "max" = none
  b_min : mg "min" = none
  b_list : mg "list" = none
  b_reversed : mg "reversed" = none
  b_isinstance : mg "isinstance" = none
  b_bool : mg "bool" = none
/-! ### what stays -/
structure Kp (S : List Addr) (H H' : Hp) : Prop where
  keep : ∀ b o, b ∉ S → H b = some o → H' b = some o
  tups : ∀ b xs, H b = some (.tup xs) → H' b = some (.tup xs)
  frzs : ∀ b o u, H b = some (.frz o u) → H' b = some (.frz o u)
theorem Kp.refl {S : List Addr} (H : Hp) : Kp S H H := ⟨fun _ _ _ h => h, fun _ _ h => h, fun _ _ _ h => h⟩
theorem Kp.trans {S : List Addr} {H H1 H2 : Hp} (a : Kp S H H1) (b : Kp S H1 H2) : Kp S H H2 :=
  ⟨fun x o n h => b.keep x o n (a.keep x o n h), fun x o h => b.tups x o (a.tups x o h), fun x o u h => b.frzs x o u (a.frzs x o u h)⟩
theorem Kp.wide {S T : List Addr} {H H' : Hp} (a : Kp S H H') (h : ∀ x ∈ S, x ∈ T) : Kp T H H' := ⟨fun x o n e => a.keep x o (fun z => n (h x z)) e, a.tups, a.frzs⟩
theorem Kp.nil {T : List Addr} {H H' : Hp} (a : Kp [] H H') : Kp T H H' := a.wide fun _ h => absurd h (by simp)
theorem Kp.new {S : List Addr} {H : Hp} {p : Addr} {o : HO} (h : H p = none) : Kp S H (upd H p o) :=
  ⟨fun b u _ e => by rw [upd_ne (ne_of_none e h)]; exact e, fun b u e => by rw [upd_ne (ne_of_none e h)]; exact e, fun b o u e => by rw [upd_ne (ne_of_none e h)]; exact e⟩
theorem Kp.set {S : List Addr} {H : Hp} {p : Addr} {xs : List V} {o : HO} (h : H p = some (.lst xs)) (hp : p ∈ S) : Kp S H (upd H p o) :=
  ⟨fun b u n e => by rw [upd_ne (fun z => n (by rw [z]; exact hp))]; exact e, fun b u e => by rw [upd_ne (ne_of e h (by intro q; cases q))]; exact e, fun b o u e => by rw [upd_ne (ne_of e h (by intro q; cases q))]; exact e⟩
/-- an object that was not there at H0 may change -/
theorem Kp.mut {S : List Addr} {H0 H : Hp} {p : Addr} {o : HO} (k : Kp S H0 H) (h : H0 p = none) : Kp S H0 (upd H p o) :=
  ⟨fun b u n e => by rw [upd_ne (ne_of_none e h)]; exact k.keep b u n e, fun b u e => by rw [upd_ne (ne_of_none e h)]; exact k.tups b u e, fun b o u e => by rw [upd_ne (ne_of_none e h)]; exact k.frzs b o u e⟩
/-- what may change within a call is new ahead of it -/
theorem Kp.drop {S : List Addr} {p : Addr} {H0 H H' : Hp} (k : Kp S H0 H) (k' : Kp (p :: S) H H') (h : H0 p = none) : Kp S H0 H' :=
  ⟨fun b u n e => k'.keep b u (by intro z; rcases List.mem_cons.mp z with z | z; · exact ne_of_none e h z
                                  · exact n z) (k.keep b u n e), fun b u e => k'.tups b u (k.tups b u e), fun b o u e => k'.frzs b o u (k.frzs b o u e)⟩
theorem Kp.free {S : List Addr} {H H' : Hp} (k : Kp S H H') {p : Addr} (hp : p ∉ S) (h : H' p = none) : H p = none := by
  cases e : H p with
  | none => rfl
  | some o => rw [k.keep p o hp e] at h; cases h
theorem Kp.sqL {K : PySem.W.Frag} {S : List Addr} {H H' : Hp} {a : Addr} {xs : List V} (k : Kp S H H') (ha : a ∉ S) (h : SqL K H a xs) : SqL K H' a xs := by
  rcases h with (h | ⟨o, h⟩) | h
  · exact .inl (.inl (k.keep _ _ ha h))
  · exact .inl (.inr ⟨o, k.frzs _ _ _ h⟩)
  · exact .inr h
theorem Kp.sqT {K : PySem.W.Frag} {S : List Addr} {H H' : Hp} {a : Addr} {xs : List V} (k : Kp S H H') (h : SqT K H a xs) : SqT K H' a xs := by
  rcases h with (h | ⟨o, h⟩) | h
  · exact .inl (.inl (k.tups _ _ h))
  · exact .inl (.inr ⟨o, k.frzs _ _ _ h⟩)
  · exact .inr h
/-- the script: a list that no def writes -/
def Scr (K : PySem.W.Frag) (H : Hp) (a : Addr) (ns : List Int) : Prop :=
  (∃ o, H a = some (.frz o (.lst (ns.map V.int)))) ∨ (H a = none ∧ ∃ (o : Obj) (its : Array Value) (n : Nat), K.lookup a = some o ∧ o.cls = .type "list" ∧ o.dict = none ∧ o.data = .seq its n ∧ its.size ≤ sizeLine ∧ Vals (ns.map V.int) its.toList)
/-! ### a feed: two numbers in a list -/
def FeedAt (H : Hp) (p : Addr) : Prop := ∃ o s : Int, H p = some (.lst [.int o, .int s]) ∧ 0 ≤ o ∧ 0 ≤ s ∧ s < 4294967296
theorem take_bound {x m : Int} (h : 0 < m) : 0 ≤ x % m ∧ x % m < m := ⟨Int.emod_nonneg _ (by omega), Int.emod_lt_of_pos _ h⟩
theorem pow18 : (10 : Int) ^ (18 : Int).toNat = 1000000000000000000 := by decide
def spFeed (K : PySem.W.Frag) : Sp := fun vs H Q _ => ∃ (a : Addr) (ns : List Int) (k : Int), vs = [.ref a, .int k] ∧ SqL K H a (ns.map V.int) ∧ ns.length ≤ 63 ∧ 0 ≤ k ∧ k ≤ 1000 ∧
  ∀ p H', H p = none → Kp [] H H' → FeedAt H' p → Q (.ref p) H'
def spTake : Sp := fun vs H Q _ => ∃ (p : Addr) (m : Int), vs = [.ref p, .int m] ∧ FeedAt H p ∧ 0 < m ∧ m < 1152921504606846976 ∧
  ∀ d H', 0 ≤ d → d < m → Kp [p] H H' → FeedAt H' p → Q (.int d) H'
theorem at_int {ns : List Int} {k : Int} (h0 : 0 ≤ k) (h : k < (ns.length : Int)) : ∃ v : Int, atI (ns.map V.int) k = some (.int v) := by
  have hk : k.toNat < ns.length := by omega
  have ek : k = ((k.toNat : Nat) : Int) := by omega
  obtain ⟨v, hv⟩ : ∃ v, ns[k.toNat]? = some v := ⟨_, List.getElem?_eq_getElem hk⟩
  refine ⟨v, ?_⟩
  rw [ek]
  exact atI_nat (by rw [List.getElem?_map, hv] <;> rfl)
theorem len_map {ns : List Int} : (((ns.map V.int).length : Nat) : Int) = (ns.length : Int) := by rw [List.length_map]
local macro_rules | `(tactic| walk_at "sx1") => `(tactic| first
  | (with_reducible refine SX.seq ?_) | (with_reducible refine SX.asg ?_) | (with_reducible refine SX.ret ?_) | (with_reducible refine SX.retN ?_) | (with_reducible refine SX.drop ?_) | (with_reducible refine SX.next ?_) | (with_reducible refine SX.brk ?_) | (with_reducible refine SX.cnt ?_)
  | (with_reducible refine SX.nxM ?_) | (with_reducible refine SX.rtM ?_) | (with_reducible refine SX.bkM ?_) | (with_reducible refine SX.ctM ?_)
  | (with_reducible refine SX.ifs ?_) | (with_reducible refine SX.cst ?_) | (with_reducible refine SX.op ?_) | (with_reducible refine SX.un ?_) | (with_reducible refine SX.cons ?_) | (with_reducible refine SX.nil ?_)
  | ((with_reducible refine' SX.var ?h ?_); (case h => exact rfl))
  | (with_reducible refine SX.cb ?_) | (with_reducible refine SX.call ?_) | (with_reducible refine SX.tst ?_) | (with_reducible refine SX.tstB ?_) | (with_reducible refine SX.bl ?_)
  | (with_reducible refine SX.and ?_) | (with_reducible refine SX.or ?_) | (with_reducible refine SX.not ?_) | (with_reducible refine SX.andV ?_) | (with_reducible refine SX.orV ?_) | (with_reducible refine SX.notV ?_) | (with_reducible refine SX.ifE ?_) | (with_reducible refine SX.chain ?_)
  | (with_reducible refine SX.tup ?_) | (with_reducible refine SX.lst ?_) | (with_reducible refine SX.bm ?_) | (with_reducible refine SX.bm0 ?_) | (with_reducible refine SX.m0 ?_) | (with_reducible refine SX.m1 ?_) | (with_reducible refine SX.sl ?_) | (with_reducible refine SX.noPart ?_) | (with_reducible refine SX.part ?_)
  | ((with_reducible refine' SX.rng1 ?c ?_); (case c => omega)) | ((with_reducible refine' SX.rng2 ?c ?_); (case c => omega))
  | (with_reducible refine SX.int1 ?_) | (with_reducible refine SX.int2 ?_) | (with_reducible refine SX.add_int ?_) | (with_reducible refine SX.eq_int ?_) | (with_reducible refine SX.eq_str ?_) | (with_reducible refine SX.eq_bl ?_) | (with_reducible refine SX.ne_int ?_) | (with_reducible refine SX.ne_str ?_) | (with_reducible refine SX.ne_bl ?_)
  | (with_reducible refine SX.i0 ?_)
  | ((with_reducible refine' SX.modI ?c ?_); (case c => omega)) | ((with_reducible refine' SX.divI ?c ?_); (case c => omega)) | ((with_reducible refine' SX.mulL ?c ?_); (case c => omega)) | ((with_reducible refine' SX.mulR ?c ?_); (case c => omega))
  | ((with_reducible refine' SX.powI ?c ?_); (case c => first | decide | omega))
  | ((with_reducible refine' SX.ix_l ?h ?e ?_); (case h => first | assumption | exact SqL.of (by assumption) | exact SqL.of upd_same); (case e => exact rfl))
  | ((with_reducible refine' SX.ix_t ?h ?e ?_); (case h => first | assumption | exact SqT.of (by assumption) | exact SqT.of upd_same); (case e => exact rfl))
  | ((with_reducible refine' SX.len_l ?h ?_); (case h => first | assumption | exact SqL.of (by assumption) | exact SqL.of upd_same))
  | ((with_reducible refine' SX.len_t ?h ?_); (case h => first | assumption | exact SqT.of (by assumption) | exact SqT.of upd_same))
  | (with_reducible refine SX.asgG ?_) | (with_reducible refine SX.gsub ?_) | (with_reducible refine SX.gname ?_) | (with_reducible refine SX.par ?_) | (with_reducible refine SX.par2 ?_)
  | ((with_reducible refine' SX.setL ?h ?e ?_); (case h => assumption); (case e => exact rfl))
  | ((with_reducible refine' SX.aug ?h ?_); (case h => exact rfl)) | (with_reducible refine SX.ipi ?_)
  | (with_reducible refine SX.isi_int_int ?_) | (with_reducible refine SX.isi_int_bool ?_) | (with_reducible refine SX.isi_bl_bool ?_) | (with_reducible refine SX.isi_lst_list (by assumption) ?_) | (with_reducible refine SX.isi_tup_tuple (by assumption) ?_)
  | (with_reducible refine SX.max2 ?_) | (with_reducible refine SX.gcons ?_) | (with_reducible refine SX.gnil ?_) | ((with_reducible refine' SX.gtup ?h ?e ?_); (case h => first | assumption | exact SqT.of (by assumption) | exact SqT.of upd_same); (case e => rfl))
  | (with_reducible refine SX.forI ?_) | (with_reducible refine SX.irng1 ?_) | (with_reducible refine SX.irng2 ?_) | (with_reducible refine SX.ilst ?_)
  | (with_reducible refine iteT ?_) | (with_reducible refine iteF ?_) | (with_reducible refine SX.ifNT ?_) | (with_reducible refine SX.ifNF ?_))
local macro_rules | `(tactic| walk_at "sx") => `(tactic| (walk_at "sx1"; repeat walk_at "sx1"))
/-! ### primes by trial -/
def isP (n : Int) : Prop := 2 ≤ n ∧ ∀ k : Int, 2 ≤ k → k ≤ 1000 → k * k ≤ n → ¬ n % k = 0
theorem isP_last : isP 999983 := by
  refine ⟨by decide, fun k h1 h2 _ h => ?_⟩
  have q : (List.range 1001).all (fun j => decide (2 ≤ j → ¬ (999983 : Int) % (j : Int) = 0)) = true := by decide +kernel
  have g := of_decide_eq_true (List.all_eq_true.mp q k.toNat (List.mem_range.mpr (by omega)))
  have e : ((k.toNat : Nat) : Int) = k := by omega
  rw [e] at g
  exact g (by omega) h
theorem mul_mono {a b : Int} (h0 : 0 ≤ a) (h : a ≤ b) : a * a ≤ b * b := Int.mul_le_mul h h h0 (by omega)
/-- such a number has no divisor but 1 and itself -/
theorem isP_dvd {p d : Int} (hp : isP p) (h9 : p ≤ 999983) (d0 : 0 < d) (dp : d < p) (hd : d ∣ p) : d = 1 := by
  obtain ⟨h, e⟩ := hd
  have hh : 0 < h := by
    rcases Int.lt_trichotomy h 0 with z | z | z
    · have := Int.mul_neg_of_pos_of_neg d0 z
      have := hp.1
      omega
    · rw [z, Int.mul_zero] at e
      have := hp.1
      omega
    · exact z
  have no : ∀ x y : Int, 2 ≤ x → x ≤ y → p = x * y → False := fun x y x2 xy e => by
    have m := Int.mul_le_mul_of_nonneg_left xy (by omega : (0 : Int) ≤ x)
    have x1000 : x ≤ 1000 := by
      rcases Int.lt_or_le 1000 x with z | z
      · have := mul_mono (by decide : (0 : Int) ≤ 1001) (by omega : 1001 ≤ x)
        omega
      · exact z
    exact hp.2 x x2 x1000 (by omega) (by rw [e]; exact Int.mul_emod_right x y)
  rcases Int.lt_or_le d 2 with z | z
  · omega
  · exfalso
    have h2 : 2 ≤ h := by
      rcases Int.lt_or_le h 2 with z | z
      · have : h = 1 := by omega
        rw [this, Int.mul_one] at e
        omega
      · exact z
    rcases Int.le_total d h with t | t
    · exact no d h z t e
    · exact no h d h2 t (by rw [e, Int.mul_comm])
def spIsP : Sp := fun vs H Q _ => ∃ n : Int, vs = [.int n] ∧ n ≤ 1000000000 ∧ ∀ b : Bool, (b = true ↔ isP n) → Q (.bl b) H

theorem isP_907 : isP 907 := by
  refine ⟨by decide, fun k h1 h2 h3 h => ?_⟩
  have q : (List.range 31).all (fun j => decide (2 ≤ j → ¬ (907 : Int) % (j : Int) = 0)) = true := by decide +kernel
  have k30 : k ≤ 30 := by
    rcases Int.lt_or_le 30 k with z | z
    · have := mul_mono (by decide : (0 : Int) ≤ 31) (by omega : 31 ≤ k)
      omega
    · exact z
  have g := of_decide_eq_true (List.all_eq_true.mp q k.toNat (List.mem_range.mpr (by omega)))
  have e : ((k.toNat : Nat) : Int) = k := by omega
  rw [e] at g
  exact g (by omega) h
theorem isP_953 : isP 953 := by
  refine ⟨by decide, fun k h1 h2 h3 h => ?_⟩
  have q : (List.range 31).all (fun j => decide (2 ≤ j → ¬ (953 : Int) % (j : Int) = 0)) = true := by decide +kernel
  have k30 : k ≤ 30 := by
    rcases Int.lt_or_le 30 k with z | z
    · have := mul_mono (by decide : (0 : Int) ≤ 31) (by omega : 31 ≤ k)
      omega
    · exact z
  have g := of_decide_eq_true (List.all_eq_true.mp q k.toNat (List.mem_range.mpr (by omega)))
  have e : ((k.toNat : Nat) : Int) = k := by omega
  rw [e] at g
  exact g (by omega) h
theorem dvd_of {a b : Int} (h : b % a = 0) : a ∣ b := Int.dvd_of_emod_eq_zero h
theorem even_of {n k : Int} (hk : k % 2 = 0) (h : n % k = 0) : n % 2 = 0 := by
  have h1 : (2 : Int) ∣ k := dvd_of hk
  exact Int.emod_eq_zero_of_dvd (Int.dvd_trans h1 (dvd_of h))
def spIsF : Sp := fun vs H Q _ => ∃ n : Int, vs = [.int n] ∧ n ≤ 999999 ∧ ∀ b : Bool, (b = true ↔ (2 < n ∧ isP n)) → Q (.bl b) H
def spPrime : Sp := fun vs H Q _ => ∃ (p : Addr) (m B : Int), vs = [.ref p, .int m] ∧ FeedAt H p ∧ 0 < m ∧ m + 1 ≤ B ∧ B ≤ 999983 ∧ isP B ∧ ∀ (n : Int) H', isP n → n ≤ B → Kp [p] H H' → FeedAt H' p → Q (.int n) H'
def spNum : Sp := fun vs H Q _ => ∃ p : Addr, vs = [.ref p] ∧ FeedAt H p ∧ ∀ (n : Int) H', Kp [p] H H' → FeedAt H' p → Q (.int n) H'
def spLaw (K : PySem.W.Frag) : Sp := fun vs H Q _ => ∃ (a : Addr) (ns : List Int), vs = [.ref a] ∧ SqL K H a (ns.map V.int) ∧ ns.length ≤ 63 ∧ ∀ H', Q (.bl true) H'
theorem small_sq {x : Int} (h0 : 0 ≤ x) (h : x * x ≤ 999999) : x ≤ 1000 := by
  rcases Int.lt_or_le 1000 x with z | z
  · have := mul_mono (by decide : (0 : Int) ≤ 1001) (by omega : 1001 ≤ x)
    omega
  · exact z

section
variable {P : Program} {w : World} {K : PySem.W.Frag} {mg : Str → Option Value} {base : Heap}

theorem ok_is_field (T : Tx K mg) : FnOk P w K mg base CX0 1 T.a_is_field T.d_is_field ["number"] spIsF := by
  refine T.F_is_field.ok sc_is_field (fun vs H Q E h => ?_) (fun cdv A outer s H vs Q E hr h => ?_)
  · obtain ⟨n, rfl, _⟩ := h
    rfl
  · obtain ⟨n, rfl, n9, q⟩ := h
    refine ⟨_, (pss_cons
        (ps_if (PW.pt (pw_or (pt_cmpR op_lt (pv 0) pe_int (nomark _)) (pw_or1 (pt_cmpR (op_xEq hr.units) (pe_op op_mod (pv 0) pe_int) pe_int (nomark _)))))
          (pss_one
            (ps_ret pe_bl))
          pss_nil)
      (pss_cons
        (ps_set (i := 1) sc_is_field.nd rfl (by first | exact Or.inl rfl | exact Or.inr rfl) pe_int)
      (pss_cons
        (ps_while PassesOwn.never (pt_cmpR op_le (pe_op op_xMul (pv 1) (pv 1)) (pv 0) (nomark _))
          (pss_cons
            (ps_if (pt_cmpR (op_xEq hr.units) (pe_op op_mod (pv 0) (pv 1)) pe_int (nomark _))
              (pss_one
                (ps_ret pe_bl))
              pss_nil)
          (pss_one
            (ps_aug (i := 1) sc_is_field.nd rfl (by first | exact Or.inl rfl | exact Or.inr rfl) pe_int ip_add))))
      (pss_one
        (ps_ret pe_bl))))), ?_⟩
    walk_at "sx"
    refine SX.ifD (fun h => ?_) (fun h => ?_)
    · walk_at "sx"
      exact q false ⟨fun z => (by cases z), fun z => by omega⟩
    · walk_at "sx"
      refine SX.ifD (fun h2 => ?_) (fun h2 => ?_)
      · walk_at "sx"
        refine q false ⟨fun z => (by cases z), fun z => ?_⟩
        exact absurd h2 (z.2.2 2 (by decide) (by decide) (by omega))
      · walk_at "sx"
        refine SX.whl (fun σ H' => H' = H ∧ ∃ k : Int, σ = [some (.int n), some (.int k)] ∧ 3 ≤ k ∧ k % 2 = 1 ∧ k ≤ 2000 ∧ ∀ j : Int, 2 ≤ j → j < k → ¬ n % j = 0) (fun σ _ => match σ with | [_, some (.int k)] => (3000 - k).toNat | _ => 0) ⟨rfl, 3, rfl, by decide, by decide, by decide, fun j h1 h2 => ?_⟩ ?_
        · obtain rfl : j = 2 := by omega
          assumption
        · rintro σ H' ⟨rfl, k, rfl, k3, kodd, k2, hk⟩
          walk_at "sx"
          refine SX.ifD (fun h3 => ⟨_, fun _ _ x => x, ?_⟩) (fun h3 => ?_)
          · have k10 := small_sq (by omega) (by omega : k * k ≤ 999999)
            walk_at "sx"
            refine SX.ifD (fun h4 => ?_) (fun h4 => ?_)
            · walk_at "sx"
              exact q false ⟨fun z => (by cases z), fun z => absurd h4 (z.2.2 k (by omega) k10 h3)⟩
            · walk_at "sx"
              refine ⟨⟨rfl, k + 2, rfl, by omega, by omega, by omega, fun j j1 j2 => ?_⟩, ?_⟩
              · rcases Int.lt_or_le j k with z | z
                · exact hk j j1 z
                · obtain rfl | rfl : j = k ∨ j = k + 1 := by omega
                  · exact h4
                  · exact fun z => h2 (even_of (by omega) z)
              · show (3000 - (k + 2)).toNat < (3000 - k).toNat
                omega
          · walk_at "sx"
            refine q true ⟨fun _ => ⟨by omega, by omega, fun j j1 j2 j3 => ?_⟩, fun _ => rfl⟩
            rcases Int.lt_or_le j k with z | z
            · exact hk j j1 z
            · have := mul_mono (by omega : (0 : Int) ≤ k) z
              omega


theorem ok__law_feed (T : Tx K mg) : FnOk P w K mg base CX0 1 T.a__law_feed T.d__law_feed ["_law_script", "_law_k"] (spFeed K) := by
  refine T.F__law_feed.ok sc__law_feed (fun vs H Q E h => ?_) (fun cdv A outer s H vs Q E hr h => ?_)
  · obtain ⟨a, ns, k, rfl, _⟩ := h
    rfl
  · obtain ⟨a, ns, k, rfl, hS, h63, k0, k1, q⟩ := h
    refine ⟨_, (pss_cons
        (ps_set (i := 2) sc__law_feed.nd rfl (by first | exact Or.inl rfl | exact Or.inr rfl) (pe_op op_xAdd (pe_op op_xMul pe_int (pv 1)) pe_int))
      (pss_cons
        (ps_if (pt_cmpR op_lt (pv 1) (pe_callB call_xLen (by rfl) T.b_len (by decide +kernel) (pa_cons (pv 0) pa_nil)) (nomark _))
          (pss_one
            (ps_set (i := 2) sc__law_feed.nd rfl (by first | exact Or.inl rfl | exact Or.inr rfl) (pe_ix ix_x (pv 0) (pv 1) (fun _ _ => rfl))))
          (pss_one
            (ps_if (pt_cmpR op_gt (pe_callB call_xLen (by rfl) T.b_len (by decide +kernel) (pa_cons (pv 0) pa_nil)) pe_int (nomark _))
              (pss_one
                (ps_set (i := 2) sc__law_feed.nd rfl (by first | exact Or.inl rfl | exact Or.inr rfl) (pe_op op_xAdd (pe_op op_xMul (pe_op op_mod (pe_ix ix_x (pv 0) (pe_op op_mod (pv 1) (pe_callB call_xLen (by rfl) T.b_len (by decide +kernel) (pa_cons (pv 0) pa_nil))) (fun _ _ => rfl)) pe_int) pe_int) (pe_op op_xMul pe_int (pv 1)))))
              pss_nil)))
      (pss_cons
        (ps_set (i := 3) sc__law_feed.nd rfl (by first | exact Or.inl rfl | exact Or.inr rfl) pe_int)
      (pss_cons
        (ps_if (pt_cmpR op_ge (pv 2) (pe_op op_pow pe_int pe_int) (nomark _))
          (pss_one
            (ps_set (i := 3) sc__law_feed.nd rfl (by first | exact Or.inl rfl | exact Or.inr rfl) (pv 2)))
          pss_nil)
      (pss_one
        (ps_ret (pe_lst (pa_cons (pv 3) (pa_cons (pe_op op_xAdd (pe_op op_mod (pe_op op_xAdd (pe_op op_xMul (pe_op op_mod (pv 2) pe_int) pe_int) (pe_op op_xMul pe_int (pv 1))) pe_int) pe_int) pa_nil))))))))), ?_⟩
    walk_at "sx"
    rw [len_map]
    refine SX.ifD (fun h1 => ?_) (fun h1 => ?_)
    · obtain ⟨v, hv⟩ := at_int (ns := ns) k0 h1
      walk_at "sx"
      refine SX.ix_l hS hv ?_
      walk_at "sx"
      rw [pow18]
      refine SX.ifD (fun h2 => ?_) (fun h2 => ?_)
      · walk_at "sx"
        refine ⟨by show 2 ≤ sizeLine; decide, fun p hp => ?_⟩
        walk_at "sx"
        exact q p _ hp (Kp.new hp) ⟨_, _, upd_same, by omega, by omega, by omega⟩
      · walk_at "sx"
        refine ⟨by show 2 ≤ sizeLine; decide, fun p hp => ?_⟩
        walk_at "sx"
        exact q p _ hp (Kp.new hp) ⟨_, _, upd_same, by omega, by omega, by omega⟩
    · walk_at "sx"
      rw [len_map]
      refine SX.ifD (fun h2 => ?_) (fun h2 => ?_)
      · walk_at "sx"
        rw [len_map]
        have b := take_bound (x := k) (m := (ns.length : Int)) (by omega)
        refine SX.modI (by omega) ?_
        obtain ⟨v, hv⟩ := at_int (ns := ns) b.1 b.2
        refine SX.ix_l hS hv ?_
        walk_at "sx"
        rw [pow18]
        refine SX.ifD (fun h2 => ?_) (fun h2 => ?_)
        · walk_at "sx"
          refine ⟨by show 2 ≤ sizeLine; decide, fun p hp => ?_⟩
          walk_at "sx"
          exact q p _ hp (Kp.new hp) ⟨_, _, upd_same, by omega, by omega, by omega⟩
        · walk_at "sx"
          refine ⟨by show 2 ≤ sizeLine; decide, fun p hp => ?_⟩
          walk_at "sx"
          exact q p _ hp (Kp.new hp) ⟨_, _, upd_same, by omega, by omega, by omega⟩
      · walk_at "sx"
        rw [pow18]
        refine SX.ifD (fun h2 => ?_) (fun h2 => ?_)
        · walk_at "sx"
          refine ⟨by show 2 ≤ sizeLine; decide, fun p hp => ?_⟩
          walk_at "sx"
          exact q p _ hp (Kp.new hp) ⟨_, _, upd_same, by omega, by omega, by omega⟩
        · walk_at "sx"
          refine ⟨by show 2 ≤ sizeLine; decide, fun p hp => ?_⟩
          walk_at "sx"
          exact q p _ hp (Kp.new hp) ⟨_, _, upd_same, by omega, by omega, by omega⟩


theorem ok__law_take (T : Tx K mg) : FnOk P w K mg base CX0 1 T.a__law_take T.d__law_take ["_law_feed_here", "_law_many"] spTake := by
  refine T.F__law_take.ok sc__law_take (fun vs H Q E h => ?_) (fun cdv A outer s H vs Q E hr h => ?_)
  · obtain ⟨p, m, rfl, _⟩ := h
    rfl
  · obtain ⟨p, m, rfl, ⟨o, sd, hF, o0, s0, s1⟩, m0, m1, q⟩ := h
    refine ⟨_, (pss_cons
        (ps_if (pt_cmpR op_gt (pe_ix ix_x (pv 0) pe_int (fun _ _ => rfl)) pe_int (nomark _))
          (pss_cons
            (ps_set (i := 2) sc__law_take.nd rfl (by first | exact Or.inl rfl | exact Or.inr rfl) (pe_op op_mod (pe_ix ix_x (pv 0) pe_int (fun _ _ => rfl)) (pv 1)))
          (pss_cons
            (ps_asg (pe_op op_fdivW (pe_ix ix_x (pv 0) pe_int (fun _ _ => rfl)) (pv 1)) (pg_sub (pv 0) pe_int set_list))
          (pss_one
            (ps_ret (pv 2)))))
          pss_nil)
      (pss_cons
        (ps_set (i := 3) sc__law_take.nd rfl (by first | exact Or.inl rfl | exact Or.inr rfl) (pe_op op_mod (pe_op op_xMul (pe_ix ix_x (pv 0) pe_int (fun _ _ => rfl)) pe_int) pe_int))
      (pss_cons
        (ps_asg (pe_op op_xAdd (pe_op op_mod (pe_op op_xAdd (pe_op op_xMul (pv 3) pe_int) pe_int) pe_int) pe_int) (pg_sub (pv 0) pe_int set_list))
      (pss_one
        (ps_ret (pe_op op_mod (pe_op op_fdivW (pe_op op_xAdd (pe_op op_xMul (pv 3) pe_int) (pe_ix ix_x (pv 0) pe_int (fun _ _ => rfl))) pe_int) (pv 1))))))), ?_⟩
    walk_at "sx"
    refine SX.ifD (fun h1 => ?_) (fun h1 => ?_)
    · walk_at "sx"
      have b := take_bound (x := o) m0
      refine q _ _ b.1 b.2 (Kp.set hF (by simp)) ⟨_, _, upd_same, Int.ediv_nonneg (by omega) (by omega), s0, s1⟩
    · walk_at "sx"
      have b := fun x => take_bound (x := x) m0
      exact q _ _ (b _).1 (b _).2 (Kp.set hF (by simp)) ⟨_, _, upd_same, o0, by omega, by omega⟩


theorem ok__law_is_prime (T : Tx K mg) : FnOk P w K mg base CX0 1 T.a__law_is_prime T.d__law_is_prime ["_law_number_here"] spIsP := by
  refine T.F__law_is_prime.ok sc__law_is_prime (fun vs H Q E h => ?_) (fun cdv A outer s H vs Q E hr h => ?_)
  · obtain ⟨n, rfl, _⟩ := h
    rfl
  · obtain ⟨n, rfl, n9, q⟩ := h
    refine ⟨_, (pss_cons
        (ps_if (pt_cmpR op_lt (pv 0) pe_int (nomark _))
          (pss_one
            (ps_ret pe_bl))
          pss_nil)
      (pss_cons
        (ps_for PassesOwn.never rfl (pi_range2 (by rfl) T.b_range (pa_cons pe_int (pa_cons pe_int pa_nil))) (pg_name (i := 1) sc__law_is_prime.nd rfl (by first | exact Or.inl rfl | exact Or.inr rfl))
          (pss_cons
            (ps_if (pt_cmpR op_gt (pe_op op_xMul (pv 1) (pv 1)) (pv 0) (nomark _))
              (pss_one
                (ps_ret pe_bl))
              pss_nil)
          (pss_one
            (ps_if (pt_cmpR (op_xEq hr.units) (pe_op op_mod (pv 0) (pv 1)) pe_int (nomark _))
              (pss_one
                (ps_ret pe_bl))
              pss_nil))))
      (pss_one
        (ps_ret pe_bl)))), ?_⟩
    walk_at "sx"
    refine SX.ifD (fun h => ?_) (fun h => ?_)
    · walk_at "sx"
      exact q false ⟨fun z => (by cases z), fun z => by have := z.1; omega⟩
    · walk_at "sx"
      refine for_range (lo := 2) (n := 999) (fun i σ H' => H' = H ∧ (∃ x, σ = [some (.int n), x]) ∧ ∀ j : Int, 2 ≤ j → j < 2 + (i : Int) → j * j ≤ n ∧ ¬ n % j = 0) ?_ ?_ ?_
      · exact ⟨rfl, ⟨_, rfl⟩, fun j h1 h2 => by omega⟩
      · rintro i σ H' hi ⟨rfl, ⟨x, rfl⟩, hj⟩
        walk_at "sx"
        refine SX.ifD (fun h1 => ?_) (fun h1 => ?_)
        · walk_at "sx"
          refine q true ⟨fun _ => ⟨by omega, fun k k2 k3 k4 => ?_⟩, fun _ => rfl⟩
          rcases Int.lt_or_le k (2 + (i : Int)) with z | z
          · exact (hj k k2 z).2
          · have := mul_mono (by omega : (0 : Int) ≤ 2 + (i : Int)) z
            omega
        · walk_at "sx"
          refine SX.ifD (fun h2 => ?_) (fun h2 => ?_)
          · walk_at "sx"
            exact q false ⟨fun z => (by cases z), fun z => absurd h2 (z.2 _ (by omega) (by omega) (by omega))⟩
          · walk_at "sx"
            refine ⟨rfl, ⟨_, rfl⟩, fun j j1 j2 => ?_⟩
            rcases Int.lt_or_le j (2 + (i : Int)) with z | z
            · exact hj j j1 z
            · obtain rfl : j = 2 + (i : Int) := by omega
              exact ⟨by omega, h2⟩
      · rintro σ H' ⟨rfl, ⟨x, rfl⟩, hj⟩
        walk_at "sx"
        exact q true ⟨fun _ => ⟨by omega, fun k k2 k3 _ => (hj k k2 (by omega)).2⟩, fun _ => rfl⟩


theorem ok__law_prime (T : Tx K mg) : FnOk P w K mg base CX0 2 T.a__law_prime T.d__law_prime ["_law_feed_here", "_law_most"] spPrime := by
  refine T.F__law_prime.ok sc__law_prime (fun vs H Q E h => ?_) (fun cdv A outer s H vs Q E hr h => ?_)
  · obtain ⟨p, m, B, rfl, _⟩ := h
    rfl
  · obtain ⟨p, m, B, rfl, hF, m0, mB, B9, hB, q⟩ := h
    refine ⟨_, (pss_cons
        (ps_set (i := 2) sc__law_prime.nd rfl (by first | exact Or.inl rfl | exact Or.inr rfl) (pe_op op_xAdd pe_int (pe_call (ok__law_take T) (hr.mono (by decide)) (by rfl) T.m__law_take T.F__law_take.kp T.B__law_take .nil pass0 (pa_cons (pv 0) (pa_cons (pv 1) pa_nil)))))
      (pss_cons
        (ps_while PassesOwn.never (pt_not (pt_val (pe_call (ok__law_is_prime T) (hr.mono (by decide)) (by rfl) T.m__law_is_prime T.F__law_is_prime.kp T.B__law_is_prime .nil pass0 (pa_cons (pv 2) pa_nil))))
          (pss_one
            (ps_set (i := 2) sc__law_prime.nd rfl (by first | exact Or.inl rfl | exact Or.inr rfl) (pe_op op_xAdd (pv 2) pe_int))))
      (pss_one
        (ps_ret (pv 2))))), ?_⟩
    walk_at "sx"
    refine ⟨p, m, rfl, hF, m0, by omega, fun d H1 a0 a1 K1 F1 => ?_⟩
    walk_at "sx"
    refine SX.whl (fun σ H' => H' = H1 ∧ ∃ n : Int, σ = [some (.ref p), some (.int m), some (.int n)] ∧ 2 ≤ n ∧ n ≤ B) (fun σ _ => match σ with | [_, _, some (.int n)] => (B - n).toNat | _ => 0) ⟨rfl, _, rfl, by omega, by omega⟩ ?_
    rintro σ H' ⟨rfl, n, rfl, n0, n1⟩
    walk_at "sx"
    refine ⟨n, rfl, by omega, fun b hb => ?_⟩
    walk_at "sx"
    cases b with
    | false =>
      walk_at "sx"
      refine ⟨_, fun _ _ x => x, ?_⟩
      have nm : ¬ n = B := fun z => by
        rw [z] at hb
        exact absurd (hb.mpr hB) (by decide)
      walk_at "sx"
      refine ⟨⟨rfl, _, rfl, by omega, by omega⟩, ?_⟩
      show (B - (n + 1)).toNat < (B - n).toNat
      omega
    | true =>
      walk_at "sx"
      exact q n _ (hb.mp rfl) n1 K1 F1


theorem ok__law_number (T : Tx K mg) : FnOk P w K mg base CX0 3 T.a__law_number T.d__law_number ["_law_feed_here"] spNum := by
  refine T.F__law_number.ok sc__law_number (fun vs H Q E h => ?_) (fun cdv A outer s H vs Q E hr h => ?_)
  · obtain ⟨p, rfl, _⟩ := h
    rfl
  · obtain ⟨p, rfl, hF, q⟩ := h
    refine ⟨_, (pss_cons
        (ps_set (i := 1) sc__law_number.nd rfl (by first | exact Or.inl rfl | exact Or.inr rfl) (pe_call (ok__law_take T) (hr.mono (by decide)) (by rfl) T.m__law_take T.F__law_take.kp T.B__law_take .nil pass0 (pa_cons (pv 0) (pa_cons pe_int pa_nil))))
      (pss_cons
        (ps_if (pt_cmpR (op_xEq hr.units) (pv 1) pe_int (nomark _))
          (pss_one
            (ps_ret (pe_call (ok__law_take T) (hr.mono (by decide)) (by rfl) T.m__law_take T.F__law_take.kp T.B__law_take .nil pass0 (pa_cons (pv 0) (pa_cons (pe_op op_pow pe_int pe_int) pa_nil)))))
          pss_nil)
      (pss_cons
        (ps_if (pt_cmpR (op_xEq hr.units) (pv 1) pe_int (nomark _))
          (pss_one
            (ps_ret (pe_call (ok__law_prime T) (hr.mono (by decide)) (by rfl) T.m__law_prime T.F__law_prime.kp T.B__law_prime .nil pass0 (pa_cons (pv 0) (pa_cons pe_int pa_nil)))))
          pss_nil)
      (pss_cons
        (ps_if (pt_cmpR (op_xEq hr.units) (pv 1) pe_int (nomark _))
          (pss_one
            (ps_ret (pe_op op_sub (pe_op op_xAdd (pe_call (ok__law_prime T) (hr.mono (by decide)) (by rfl) T.m__law_prime T.F__law_prime.kp T.B__law_prime .nil pass0 (pa_cons (pv 0) (pa_cons pe_int pa_nil))) (pe_call (ok__law_take T) (hr.mono (by decide)) (by rfl) T.m__law_take T.F__law_take.kp T.B__law_take .nil pass0 (pa_cons (pv 0) (pa_cons pe_int pa_nil)))) pe_int)))
          pss_nil)
      (pss_cons
        (ps_if (pt_cmpR (op_xEq hr.units) (pv 1) pe_int (nomark _))
          (pss_cons
            (ps_set (i := 2) sc__law_number.nd rfl (by first | exact Or.inl rfl | exact Or.inr rfl) (pe_call (ok__law_prime T) (hr.mono (by decide)) (by rfl) T.m__law_prime T.F__law_prime.kp T.B__law_prime .nil pass0 (pa_cons (pv 0) (pa_cons pe_int pa_nil))))
          (pss_one
            (ps_ret (pe_op op_xMul (pv 2) (pe_call (ok__law_prime T) (hr.mono (by decide)) (by rfl) T.m__law_prime T.F__law_prime.kp T.B__law_prime .nil pass0 (pa_cons (pv 0) (pa_cons (pe_op op_sub (pe_op op_fdivW pe_int (pv 2)) pe_int) pa_nil)))))))
          pss_nil)
      (pss_cons
        (ps_if (pt_cmpR (op_xEq hr.units) (pv 1) pe_int (nomark _))
          (pss_one
            (ps_ret (pe_op op_pow (pe_call (ok__law_prime T) (hr.mono (by decide)) (by rfl) T.m__law_prime T.F__law_prime.kp T.B__law_prime .nil pass0 (pa_cons (pv 0) (pa_cons pe_int pa_nil))) pe_int)))
          pss_nil)
      (pss_cons
        (ps_if (pt_cmpR (op_xEq hr.units) (pv 1) pe_int (nomark _))
          (pss_one
            (ps_ret (pe_call (ok__law_take T) (hr.mono (by decide)) (by rfl) T.m__law_take T.F__law_take.kp T.B__law_take .nil pass0 (pa_cons (pv 0) (pa_cons pe_int pa_nil)))))
          pss_nil)
      (pss_one
        (ps_ret (pe_op op_sub pe_int (pe_call (ok__law_take T) (hr.mono (by decide)) (by rfl) T.m__law_take T.F__law_take.kp T.B__law_take .nil pass0 (pa_cons (pv 0) (pa_cons (pe_op op_pow pe_int pe_int) pa_nil))))))))))))), ?_⟩
    walk_at "sx"
    refine ⟨p, 7, rfl, hF, by decide, by decide, fun d H1 a0 a1 K1 F1 => ?_⟩
    walk_at "sx"
    refine SX.ifD (fun h => ?_) (fun h => ?_)
    · walk_at "sx"
      refine ⟨p, _, rfl, F1, by decide, by decide, fun d H2 a0 a1 K2 F2 => ?_⟩
      walk_at "sx"
      exact q _ _ (K1.trans K2) F2
    walk_at "sx"
    refine SX.ifD (fun h => ?_) (fun h => ?_)
    · walk_at "sx"
      refine ⟨p, _, 999983, rfl, F1, by decide, by decide, by decide, isP_last, fun n H2 hn n1 K2 F2 => ?_⟩
      walk_at "sx"
      exact q _ _ (K1.trans K2) F2
    walk_at "sx"
    refine SX.ifD (fun h => ?_) (fun h => ?_)
    · walk_at "sx"
      refine ⟨p, _, 999983, rfl, F1, by decide, by decide, by decide, isP_last, fun n H2 hn n1 K2 F2 => ?_⟩
      walk_at "sx"
      refine ⟨p, _, rfl, F2, by decide, by decide, fun d H3 a0 a1 K3 F3 => ?_⟩
      walk_at "sx"
      exact q _ _ ((K1.trans K2).trans K3) F3
    walk_at "sx"
    refine SX.ifD (fun h => ?_) (fun h => ?_)
    · walk_at "sx"
      refine ⟨p, _, 907, rfl, F1, by decide, by decide, by decide, isP_907, fun n H2 hn n1 K2 F2 => ?_⟩
      have n2 := hn.1
      walk_at "sx"
      have b1 : 1000 ≤ 999999 / n := by
        rw [Int.le_ediv_iff_mul_le (by omega)]
        omega
      have b2 : 999999 / n ≤ 499999 := by
        have := Int.ediv_le_ediv (a := 999999) (b := 999999) (c := n) (by omega) (Int.le_refl _)
        have h3 : 999999 / n * n ≤ 999999 := Int.ediv_mul_le _ (by omega)
        rcases Int.lt_or_le 499999 (999999 / n) with z | z
        · have := Int.mul_le_mul (by omega : 500000 ≤ 999999 / n) n2 (by decide) (by omega)
          omega
        · exact z
      refine ⟨p, _, 999983, rfl, F2, by omega, by omega, by decide, isP_last, fun n' H3 hn' n1' K3 F3 => ?_⟩
      walk_at "sx"
      exact q _ _ ((K1.trans K2).trans K3) F3
    walk_at "sx"
    refine SX.ifD (fun h => ?_) (fun h => ?_)
    · walk_at "sx"
      refine ⟨p, _, 953, rfl, F1, by decide, by decide, by decide, isP_953, fun n H2 hn n1 K2 F2 => ?_⟩
      have n2 := hn.1
      walk_at "sx"
      exact q _ _ (K1.trans K2) F2
    walk_at "sx"
    refine SX.ifD (fun h => ?_) (fun h => ?_)
    · walk_at "sx"
      refine ⟨p, _, rfl, F1, by decide, by decide, fun d H2 a0 a1 K2 F2 => ?_⟩
      walk_at "sx"
      exact q _ _ (K1.trans K2) F2
    walk_at "sx"
    refine ⟨p, _, rfl, F1, by decide, by decide, fun d H2 a0 a1 K2 F2 => ?_⟩
    walk_at "sx"
    exact q _ _ (K1.trans K2) F2


theorem ok_law (T : Tx K mg) : FnOk P w K mg base CX0 4 T.a_law T.d_law ["_law_script"] (spLaw K) := by
  refine T.F_law.ok sc_law (fun vs H Q E h => ?_) (fun cdv A outer s H vs Q E hr h => ?_)
  · obtain ⟨a, ns, rfl, _⟩ := h
    rfl
  · obtain ⟨a, ns, rfl, hS, h63, q⟩ := h
    refine ⟨_, (pss_cons
        (ps_set (i := 1) sc_law.nd rfl (by first | exact Or.inl rfl | exact Or.inr rfl) (pe_lst (pa_cons pe_int (pa_cons pe_int (pa_cons pe_int (pa_cons pe_int (pa_cons pe_int (pa_cons pe_int pa_nil))))))))
      (pss_cons
        (ps_for PassesOwn.never rfl (pi_range1 (by rfl) T.b_range (pa_cons (pe_callB (call_max2 rfl) (by rfl) T.b_max (by decide +kernel) (pa_cons pe_int (pa_cons (pe_callB call_xLen (by rfl) T.b_len (by decide +kernel) (pa_cons (pe_slice sl_list (pv 0) (po_some pe_int) (po_some pe_int)) pa_nil)) pa_nil))) pa_nil)) (pg_name (i := 2) sc_law.nd rfl (by first | exact Or.inl rfl | exact Or.inr rfl))
          (pss_one
            (ps_expr (pe_bm PySem.F.plainAttrs_list PySem.F.slot_list_append PySem.F.type_list_append mt_append (pv 1) (pa_cons (pe_callB (call_min2 rfl) (by rfl) T.b_min (by decide +kernel) (pa_cons pe_int (pa_cons (pe_call (ok__law_number T) (hr.mono (by decide)) (by rfl) T.m__law_number T.F__law_number.kp T.B__law_number .nil pass0 (pa_cons (pe_call (ok__law_feed T) (hr.mono (by decide)) (by rfl) T.m__law_feed T.F__law_feed.kp T.B__law_feed .nil pass0 (pa_cons (pv 0) (pa_cons (pe_op op_xAdd pe_int (pv 2)) pa_nil))) pa_nil)) pa_nil))) pa_nil)))))
      (pss_cons
        (ps_for PassesOwn.never rfl (pi_list (pe_op op_xAdd (pv 1) (LRev.pe_lstRev rfl (by rfl) T.b_list (by rfl) T.b_reversed (pv 1)))) (pg_name (i := 3) sc_law.nd rfl (by first | exact Or.inl rfl | exact Or.inr rfl))
          (pss_cons
            (ps_set (i := 4) sc_law.nd rfl (by first | exact Or.inl rfl | exact Or.inr rfl) (pe_call (ok_is_field T) (hr.mono (by decide)) (by rfl) T.m_is_field T.F_is_field.kp T.B_is_field .nil pass0 (pa_cons (pv 3) pa_nil)))
          (pss_one
            (ps_if (PW.pt (pw_or (pt_not (pt_val (pe_callB call_isi (by rfl) T.b_isinstance (by decide +kernel) (pa_cons (pv 4) (pa_cons (pe_bltn (v := .ty "bool") (by rfl) T.b_bool (by decide +kernel) rfl) pa_nil))))) (pw_or1 (pt_cmpR (op_xNe hr.units) (pv 4) (pe_and (pe_cmpR op_gt (pv 3) pe_int (nomark _)) (pe_one (pe_call (ok__law_is_prime T) (hr.mono (by decide)) (by rfl) T.m__law_is_prime T.F__law_is_prime.kp T.B__law_is_prime .nil pass0 (pa_cons (pv 3) pa_nil)))) (nomark _)))))
              (pss_one
                (ps_ret pe_bl))
              pss_nil))))
      (pss_one
        (ps_ret pe_bl))))), ?_⟩
    walk_at "sx"
    refine ⟨by show 6 ≤ sizeLine; decide, fun l hl => ?_⟩
    have k1 : Kp [] H (upd H l (.lst [.int 999983, .int 999981, .int 994009, .int 2, .int 3, .int 9])) := Kp.new hl
    have hl1 : (upd H l (.lst [.int 999983, .int 999981, .int 994009, .int 2, .int 3, .int 9])) l = some (.lst (([999983, 999981, 994009, 2, 3, 9] : List Int).map V.int)) := upd_same
    generalize (upd H l (.lst [.int 999983, .int 999981, .int 994009, .int 2, .int 3, .int 9])) = H1 at k1 hl1
    walk_at "sx"
    refine ⟨a, _, rfl, k1.sqL (by simp) hS, fun c hc => ?_⟩
    have hz := cutV_length (ns.map V.int) (some 1) (some 21)
    rw [List.length_map] at hz
    have k2 := k1.trans (Kp.new (o := .lst (cutV (ns.map V.int) (some 1) (some 21))) hc)
    have hl2 : (upd H1 c (.lst (cutV (ns.map V.int) (some 1) (some 21)))) l = some (.lst (([999983, 999981, 994009, 2, 3, 9] : List Int).map V.int)) := by
      rw [upd_ne (ne_of_none hl1 hc)]
      exact hl1
    walk_at "sx"
    generalize (cutV (ns.map V.int) (some 1) (some 21)).length = n at hz
    generalize (upd H1 c (.lst (cutV (ns.map V.int) (some 1) (some 21)))) = H2 at k2 hl2
    refine for_range (lo := 0) (fun i σ H' => Kp [] H H' ∧ ∃ x1 x2 x3, ∃ ms : List Int, σ = [some (.ref a), some (.ref l), x1, x2, x3] ∧ H' l = some (.lst (ms.map V.int)) ∧ ms.length ≤ 6 + i ∧ ∀ m ∈ ms, m ≤ 999999) ?_ ?_ ?_
    · exact ⟨k2, none, none, none, _, rfl, hl2, by decide, by decide⟩
    · rintro i σ H' hi ⟨kk, x1, x2, x3, ms, rfl, hl', hlen, hms⟩
      have hi' : (i : Int) < 64 := by
        have : i < (if (n : Int) > 1 then (n : Int) else 1).toNat := hi
        split at this <;> omega
      walk_at "sx"
      refine ⟨.inl ⟨rfl, _, SqL.of hl'⟩, ?_⟩
      walk_at "sx"
      refine ⟨a, ns, _, rfl, kk.sqL (by simp) hS, h63, by omega, by omega, fun p H3 hp K3 F3 => ?_⟩
      have p0 := kk.free (by simp) hp
      have nlp : l ≠ p := ne_of_none hl' hp
      have hl3 := K3.keep l _ (by simp) hl'
      walk_at "sx"
      refine ⟨p, rfl, F3, fun m H4 K4 F4 => ?_⟩
      have hl4 := K4.keep l _ (by simpa using nlp) hl3
      have k4 := (kk.trans K3).drop K4 p0
      walk_at "sx"
      refine ⟨l, _, _, rfl, rfl, hl4, Nat.lt_of_le_of_lt (by rw [List.length_map]; omega) (by decide : 1000 < sizeLine), ?_⟩
      walk_at "sx"
      refine ⟨k4.mut hl, _, _, _, ms ++ [if m < 999999 then m else 999999], rfl, ?_, ?_, ?_⟩
      · rw [upd_same, List.map_append] <;> rfl
      · rw [List.length_append, List.length_singleton]
        omega
      · intro y hy
        rcases List.mem_append.mp hy with z | z
        · exact hms y z
        · rw [List.mem_singleton.mp z]
          split <;> omega
    · rintro σ H' ⟨kk, x1, x2, x3, ms, rfl, hl', hlen, hms⟩
      have hlen' : ms.length ≤ 200 := by
        have : ms.length ≤ 6 + (if (n : Int) > 1 then (n : Int) else 1).toNat := hlen
        split at this <;> omega
      walk_at "sx"
      refine ⟨_, rfl, l, _, rfl, SqL.of hl', fun r hr' => ?_⟩
      have nlr : l ≠ r := ne_of_none hl' hr'
      refine Or.inl ⟨l, r, _, _, rfl, rfl, by rw [upd_ne nlr]; exact hl', upd_same, Nat.le_trans (by rw [List.length_reverse, List.length_map]; omega) (by decide : 1000 ≤ sizeLine), fun t ht => ?_⟩
      have ht1 : ∀ H'', H'' = upd (upd H' r (.lst (ms.map V.int).reverse)) t (.lst (ms.map V.int ++ (ms.map V.int).reverse)) → H'' t = some (.lst ((ms ++ ms.reverse).map V.int)) := fun H'' e => by
        rw [e, upd_same, List.map_append, List.map_reverse]
      generalize upd (upd H' r (.lst (ms.map V.int).reverse)) t (.lst (ms.map V.int ++ (ms.map V.int).reverse)) = H5 at ht1
      have ht5 := ht1 _ rfl
      refine ⟨t, rfl, ⟨_, SqL.of ht5⟩, for_list (K := K) (a := t) (xs := (ms ++ ms.reverse).map V.int) (fun i σ H' => H' = H5 ∧ ∃ x1 x2 x3, σ = [some (.ref a), some (.ref l), x1, x2, x3]) ?_ ?_ ?_ ?_⟩
      · exact ⟨rfl, _, _, _, rfl⟩
      · rintro i σ H' hi ⟨rfl, _⟩
        exact SqL.of ht5
      · rintro i y σ H' hy ⟨rfl, x1, x2, x3, rfl⟩
        obtain ⟨m, hm, rfl⟩ : ∃ m, m ∈ ms ∧ y = V.int m := by
          rw [List.getElem?_map] at hy
          cases e : (ms ++ ms.reverse)[i]? with
          | none => rw [e] at hy; cases hy
          | some u =>
            rw [e] at hy
            refine ⟨u, ?_, (Option.some.inj hy).symm⟩
            have := List.mem_of_getElem? e
            simpa using this
        have m9 := hms m hm
        walk_at "sx"
        refine ⟨m, rfl, m9, fun b hb => ?_⟩
        walk_at "sx"
        refine SX.ifD (fun h2 => ?_) (fun h2 => ?_)
        · walk_at "sx"
          refine ⟨m, rfl, by omega, fun b2 hb2 => ?_⟩
          walk_at "sx"
          have e : b = b2 := by
            cases b <;> cases b2 <;> simp_all
          refine SX.ifNP e ?_
          walk_at "sx"
          exact ⟨rfl, _, _, _, rfl⟩
        · walk_at "sx"
          have e : b = false := by
            cases b with
            | false => rfl
            | true => exact absurd (hb.mp rfl).1 (by omega)
          refine SX.ifNP e ?_
          walk_at "sx"
          exact ⟨rfl, _, _, _, rfl⟩
      · rintro σ H' ⟨rfl, x1, x2, x3, rfl⟩
        walk_at "sx"
        exact q _

end
theorem all_mk {l : PySem.W.OpenLaw} {w : World} {K : PySem.W.Frag} {h : Heap} {mg : Str → Option Value} {fa : Addr} (X : K.In h) (G : h.Ns mainGlobals mg) (hfa : mg "law" = some (.ref fa))
    {f0 : Addr} {od0 an0 : Option Addr} {sl0 : Array (Option Value)} {oc0 kV0 dc0 pm0 cd0 ct0 : Value}
    (a0 : PySem.W.nsIn K mainGlobals "is_field" = some (some (.ref f0)))
    (l0 : K.lookup f0 = some ⟨oc0, od0, .func (PySem.W.fnOf "is_field" "is_field" (defArgs s_is_field) (defBody s_is_field) (defScope s_is_field) .none kV0 dc0 pm0 an0 cd0 ct0), sl0⟩) (c0 : PySem.W.codeIn K cd0 "is_field" = true) (k0 : PySem.W.keepIn K (.ref f0) = true)
    {f1 : Addr} {od1 an1 : Option Addr} {sl1 : Array (Option Value)} {oc1 kV1 dc1 pm1 cd1 ct1 : Value}
    (a1 : PySem.W.nsIn K mainGlobals "_law_feed" = some (some (.ref f1)))
    (l1 : K.lookup f1 = some ⟨oc1, od1, .func (PySem.W.fnOf "_law_feed" "_law_feed" (defArgs s__law_feed) (defBody s__law_feed) (defScope s__law_feed) .none kV1 dc1 pm1 an1 cd1 ct1), sl1⟩) (c1 : PySem.W.codeIn K cd1 "_law_feed" = true) (k1 : PySem.W.keepIn K (.ref f1) = true)
    {f2 : Addr} {od2 an2 : Option Addr} {sl2 : Array (Option Value)} {oc2 kV2 dc2 pm2 cd2 ct2 : Value}
    (a2 : PySem.W.nsIn K mainGlobals "_law_take" = some (some (.ref f2)))
    (l2 : K.lookup f2 = some ⟨oc2, od2, .func (PySem.W.fnOf "_law_take" "_law_take" (defArgs s__law_take) (defBody s__law_take) (defScope s__law_take) .none kV2 dc2 pm2 an2 cd2 ct2), sl2⟩) (c2 : PySem.W.codeIn K cd2 "_law_take" = true) (k2 : PySem.W.keepIn K (.ref f2) = true)
    {f3 : Addr} {od3 an3 : Option Addr} {sl3 : Array (Option Value)} {oc3 kV3 dc3 pm3 cd3 ct3 : Value}
    (a3 : PySem.W.nsIn K mainGlobals "_law_is_prime" = some (some (.ref f3)))
    (l3 : K.lookup f3 = some ⟨oc3, od3, .func (PySem.W.fnOf "_law_is_prime" "_law_is_prime" (defArgs s__law_is_prime) (defBody s__law_is_prime) (defScope s__law_is_prime) .none kV3 dc3 pm3 an3 cd3 ct3), sl3⟩) (c3 : PySem.W.codeIn K cd3 "_law_is_prime" = true) (k3 : PySem.W.keepIn K (.ref f3) = true)
    {f4 : Addr} {od4 an4 : Option Addr} {sl4 : Array (Option Value)} {oc4 kV4 dc4 pm4 cd4 ct4 : Value}
    (a4 : PySem.W.nsIn K mainGlobals "_law_prime" = some (some (.ref f4)))
    (l4 : K.lookup f4 = some ⟨oc4, od4, .func (PySem.W.fnOf "_law_prime" "_law_prime" (defArgs s__law_prime) (defBody s__law_prime) (defScope s__law_prime) .none kV4 dc4 pm4 an4 cd4 ct4), sl4⟩) (c4 : PySem.W.codeIn K cd4 "_law_prime" = true) (k4 : PySem.W.keepIn K (.ref f4) = true)
    {f5 : Addr} {od5 an5 : Option Addr} {sl5 : Array (Option Value)} {oc5 kV5 dc5 pm5 cd5 ct5 : Value}
    (a5 : PySem.W.nsIn K mainGlobals "_law_number" = some (some (.ref f5)))
    (l5 : K.lookup f5 = some ⟨oc5, od5, .func (PySem.W.fnOf "_law_number" "_law_number" (defArgs s__law_number) (defBody s__law_number) (defScope s__law_number) .none kV5 dc5 pm5 an5 cd5 ct5), sl5⟩) (c5 : PySem.W.codeIn K cd5 "_law_number" = true) (k5 : PySem.W.keepIn K (.ref f5) = true)
    {f6 : Addr} {od6 an6 : Option Addr} {sl6 : Array (Option Value)} {oc6 kV6 dc6 pm6 cd6 ct6 : Value}
    (a6 : PySem.W.nsIn K mainGlobals "law" = some (some (.ref f6)))
    (l6 : K.lookup f6 = some ⟨oc6, od6, .func (PySem.W.fnOf "law" "law" (defArgs s_law) (defBody s_law) (defScope s_law) .none kV6 dc6 pm6 an6 cd6 ct6), sl6⟩) (c6 : PySem.W.codeIn K cd6 "law" = true) (k6 : PySem.W.keepIn K (.ref f6) = true)
    (z0 : PySem.W.nsIn K mainGlobals "len" = some none)
    (z1 : PySem.W.nsIn K mainGlobals "range" = some none)
    (z2 : PySem.W.nsIn K mainGlobals "max" = some none)
    (z3 : PySem.W.nsIn K mainGlobals "min" = some none)
    (z4 : PySem.W.nsIn K mainGlobals "list" = some none)
    (z5 : PySem.W.nsIn K mainGlobals "reversed" = some none)
    (z6 : PySem.W.nsIn K mainGlobals "isinstance" = some none)
    (z7 : PySem.W.nsIn K mainGlobals "bool" = some none)
    : ∃ fd : FuncData, (∀ (s : Shared) (v : Value), BindsTo s fd ⟨[v], []⟩ [("_law_script", v)]) ∧ ∀ base : Heap, K.In base → base.Ns mainGlobals mg → FnOk l.prog w K mg base CX0 4 fa fd ["_law_script"] (spLaw K) := by
  have e := hfa.symm.trans (PySem.W.mg_of X G a6)
  cases e
  have F0 := fun_mk (st := s_is_field) l0 c0 k0
  have B0 := F0.binds (ps := ["number"]) fun _ _ _ _ _ _ us hl => match us, hl with | [_], _ => rfl
  have F1 := fun_mk (st := s__law_feed) l1 c1 k1
  have B1 := F1.binds (ps := ["_law_script", "_law_k"]) fun _ _ _ _ _ _ us hl => match us, hl with | [_, _], _ => rfl
  have F2 := fun_mk (st := s__law_take) l2 c2 k2
  have B2 := F2.binds (ps := ["_law_feed_here", "_law_many"]) fun _ _ _ _ _ _ us hl => match us, hl with | [_, _], _ => rfl
  have F3 := fun_mk (st := s__law_is_prime) l3 c3 k3
  have B3 := F3.binds (ps := ["_law_number_here"]) fun _ _ _ _ _ _ us hl => match us, hl with | [_], _ => rfl
  have F4 := fun_mk (st := s__law_prime) l4 c4 k4
  have B4 := F4.binds (ps := ["_law_feed_here", "_law_most"]) fun _ _ _ _ _ _ us hl => match us, hl with | [_, _], _ => rfl
  have F5 := fun_mk (st := s__law_number) l5 c5 k5
  have B5 := F5.binds (ps := ["_law_feed_here"]) fun _ _ _ _ _ _ us hl => match us, hl with | [_], _ => rfl
  have F6 := fun_mk (st := s_law) l6 c6 k6
  have B6 := F6.binds (ps := ["_law_script"]) fun _ _ _ _ _ _ us hl => match us, hl with | [_], _ => rfl
  let T : Tx K mg := {
    a_is_field := f0,
    d_is_field := _,
    F_is_field := F0,
    m_is_field := PySem.W.mg_of X G a0,
    B_is_field := B0,
    a__law_feed := f1,
    d__law_feed := _,
    F__law_feed := F1,
    m__law_feed := PySem.W.mg_of X G a1,
    B__law_feed := B1,
    a__law_take := f2,
    d__law_take := _,
    F__law_take := F2,
    m__law_take := PySem.W.mg_of X G a2,
    B__law_take := B2,
    a__law_is_prime := f3,
    d__law_is_prime := _,
    F__law_is_prime := F3,
    m__law_is_prime := PySem.W.mg_of X G a3,
    B__law_is_prime := B3,
    a__law_prime := f4,
    d__law_prime := _,
    F__law_prime := F4,
    m__law_prime := PySem.W.mg_of X G a4,
    B__law_prime := B4,
    a__law_number := f5,
    d__law_number := _,
    F__law_number := F5,
    m__law_number := PySem.W.mg_of X G a5,
    B__law_number := B5,
    a_law := fa,
    d_law := _,
    F_law := F6,
    m_law := PySem.W.mg_of X G a6,
    B_law := B6,
    b_len := PySem.W.mg_none_of X G z0,
    b_range := PySem.W.mg_none_of X G z1,
    b_max := PySem.W.mg_none_of X G z2,
    b_min := PySem.W.mg_none_of X G z3,
    b_list := PySem.W.mg_none_of X G z4,
    b_reversed := PySem.W.mg_none_of X G z5,
    b_isinstance := PySem.W.mg_none_of X G z6,
    b_bool := PySem.W.mg_none_of X G z7 }
  exact ⟨PySem.W.fnOf "law" "law" (defArgs s_law) (defBody s_law) (defScope s_law) .none kV6 dc6 pm6 an6 cd6 ct6, fun s v => .of_eq rfl, fun base _ _ => ok_law T⟩
theorem walk {l : PySem.W.OpenLaw} {q : Program} {loose : List Str} {XP : (Str → Option Value) → Heap → Prop} {YP : World → Heap → Prop} {d : DefRec} {K : Params → PySem.W.Frag} (hn : l.most = some 63) (hdf : d.params.defaults = [])
    (hY : ∀ (w : World) (h : Heap), YP w h → (K w.params).In h)
    (F : ∀ (w : World) (mg : Str → Option Value) (fa : Addr) (h : Heap), (K w.params).In h → h.Ns mainGlobals mg → mg d.name = some (.ref fa) →
      ∃ fd : FuncData, (∀ (s : Shared) (u : Value), BindsTo s fd ⟨[u], []⟩ [("_law_script", u)]) ∧ ∀ base : Heap, (K w.params).In base → base.Ns mainGlobals mg → FnOk l.prog w (K w.params) mg base CX0 4 fa fd ["_law_script"] (spLaw (K w.params))) :
    PySem.W.WalkO q loose XP YP l.row.toRowW d [] (fun f vs => PySem.call f vs) :=
  L2.walk_of (n := 63) (k := 4) (x := "_law_script") (CX := fun _ => CX0) (sp := fun w => spLaw (K w.params)) hn (by decide) hdf ⟨rfl, by decide, by decide⟩ hY F (fun _ _ a ns hl _ hS => ⟨a, ns, rfl, hS, hl, fun _ => rfl⟩) fun _ _ _ _ _ z => z
end My

open PySem PySem.W PyProof.Rows in
set_option maxRecDepth 100000 in
set_option maxHeartbeats 0 in
theorem PySem.Challenge.cw_asktally_k16_fields_holds : PySem.Challenge.rw_asktally_k16_fields.Holds := by
  w_on; o_law; k_head; (case hw => w_witness2)
  k_fill
  refine My.walk (l := PySem.Challenge.rw_asktally_k16_fields) rfl rfl (fun w h Y => PySem.W.kIn_of Y) ?F
  case F =>
    intro w mg fa h KX G hmg
    refine' My.all_mk KX G hmg ?a0 ?l0 ?c0 ?k0 ?a1 ?l1 ?c1 ?k1 ?a2 ?l2 ?c2 ?k2 ?a3 ?l3 ?c3 ?k3 ?a4 ?l4 ?c4 ?k4 ?a5 ?l5 ?c5 ?k5 ?a6 ?l6 ?c6 ?k6 ?z0 ?z1 ?z2 ?z3 ?z4 ?z5 ?z6 ?z7
    (case a0 => k_is)
    (case l0 => k_is)
    (case c0 => k_is)
    (case k0 => k_is)
    (case a1 => k_is)
    (case l1 => k_is)
    (case c1 => k_is)
    (case k1 => k_is)
    (case a2 => k_is)
    (case l2 => k_is)
    (case c2 => k_is)
    (case k2 => k_is)
    (case a3 => k_is)
    (case l3 => k_is)
    (case c3 => k_is)
    (case k3 => k_is)
    (case a4 => k_is)
    (case l4 => k_is)
    (case c4 => k_is)
    (case k4 => k_is)
    (case a5 => k_is)
    (case l5 => k_is)
    (case c5 => k_is)
    (case k5 => k_is)
    (case a6 => k_is)
    (case l6 => k_is)
    (case c6 => k_is)
    (case k6 => k_is)
    (case z0 => k_is)
    (case z1 => k_is)
    (case z2 => k_is)
    (case z3 => k_is)
    (case z4 => k_is)
    (case z5 => k_is)
    (case z6 => k_is)
    (case z7 => k_is)
#print axioms PySem.Challenge.cw_asktally_k16_fields_holds
