import PyProof.Rows.All
import Wide.All
import OpenK.AllK
import Wide.FinOn
import HandS.ForMost
import HandS.Wide
import HandS.WideBits
import HandS.Flow
import HandS.Style
import HandS.IsInst
import HandS.Codes
import HandS.Evl
import HandS.TupAny
import HandS.Defaults
import HandS.WordsExc
import HandS.Head0
import HandS.Head1
import HandS.Head2
import HandS.HeadEnd
import HandS.HeadHook1
import HandS.HeadHook2
import PySem.Challenge.RW_whatpasses_k06_weights
set_option Elab.async false
set_option linter.all false
set_option maxRecDepth 100000
set_option maxHeartbeats 4000000
namespace WP
open PySem PySem.Spec PyProof.Rows L2

/-! ### rules that take what comes -/
def rAddA (K : PySem.W.Frag) : R2 := fun x y H Q => (∃ i j, x = .int i ∧ y = .int j ∧ Q (.int (i + j)) H) ∨ (∃ i j, x = .str i ∧ y = .str j ∧ i.length + j.length ≤ sizeLine ∧ Q (.str (i ++ j)) H) ∨ rCat x y H Q ∨ rCatT K x y H Q
def rMulA : R2 := fun x y H Q => (∃ i j, x = .int i ∧ y = .int j ∧ CMul i j ∧ Q (.int (i * j)) H) ∨ rRep x y H Q
def rLenA (K : PySem.W.Frag) : List V → Hp → VK → Prop := fun xs H Q => ∃ x n, xs = [x] ∧ LenV K x H n ∧ Q (.int (n : Nat)) H
def rAbsA : List V → Hp → VK → Prop := fun xs H Q => ∃ i, xs = [.int i] ∧ Q (.int (if i < 0 then -i else i)) H
def rIntA : List V → Hp → VK → Prop := fun xs H Q => (∃ i, xs = [.int i] ∧ Q (.int i) H) ∨ ∃ k, xs = [.bl k] ∧ Q (.int (if k then 1 else 0)) H
def rMax2A : List V → Hp → VK → Prop := fun xs H Q => ∃ i j, xs = [.int i, .int j] ∧ Q (.int (if j > i then j else i)) H
def rMin2A : List V → Hp → VK → Prop := fun xs H Q => ∃ i j, xs = [.int i, .int j] ∧ Q (.int (if j < i then j else i)) H
def rEqA (K : PySem.W.Frag) : R2 := fun x y H Q => rEq x y H Q ∨ rEqD K x y H Q
def rNeA (K : PySem.W.Frag) : R2 := fun x y H Q => rNe x y H Q ∨ rNeD K x y H Q
def rLtA : R2 := fun x y H Q => (∃ i j, x = .int i ∧ y = .int j ∧ Q (.bl (decide (i < j))) H) ∨ ∃ i j, x = .str i ∧ y = .str j ∧ Q (.bl (decide (i.cps.toList < j.cps.toList))) H
def rLeA : R2 := fun x y H Q => ∃ i j, x = .int i ∧ y = .int j ∧ Q (.bl (decide (i ≤ j))) H
def rGtA : R2 := fun x y H Q => ∃ i j, x = .int i ∧ y = .int j ∧ Q (.bl (decide (j < i))) H
def rGeA : R2 := fun x y H Q => ∃ i j, x = .int i ∧ y = .int j ∧ Q (.bl (decide (j ≤ i))) H
def rIsA : R2 := fun x y H Q => (y = .non ∧ Q (.bl (decide (x = .non))) H) ∨ ∃ a b : Bool, x = .bl a ∧ y = .bl b ∧ Q (.bl (decide (a = b))) H
def rIsNotA : R2 := fun x y H Q => (y = .non ∧ Q (.bl (!decide (x = .non))) H) ∨ ∃ a b : Bool, x = .bl a ∧ y = .bl b ∧ Q (.bl (!decide (a = b))) H
def rInA (K : PySem.W.Frag) : R2 := fun x y H Q => (∃ (c : Nat) (z : Str), x = .str ⟨#[c]⟩ ∧ y = .str z ∧ Q (.bl (decide (c ∈ z.cps.toList))) H) ∨ rIn K false x y H Q
def rNotInA (K : PySem.W.Frag) : R2 := fun x y H Q => (∃ (c : Nat) (z : Str), x = .str ⟨#[c]⟩ ∧ y = .str z ∧ Q (.bl (!decide (c ∈ z.cps.toList))) H) ∨ rIn K true x y H Q
def rSlA3 (K : PySem.W.Frag) : V → Option Int → Option Int → Hp → VK → Prop := fun x lo hi H Q => rSlS x lo hi H Q ∨ rSlL K x lo hi H Q
section
variable {X : Cx}
theorem op_addA : OpR X (binaryOp .Add) (rAddA X.K) := op_add.or (op_add_str.or (op_cat.or op_catT))
theorem op_mulA : OpR X (binaryOp .Mult) rMulA := op_mul.or op_rep
theorem call_lenA : CallR X (.builtin "len") (rLenA X.K) := call_len
theorem call_absA : CallR X (.builtin "abs") rAbsA := call_abs
theorem call_intA : CallR X (.type "int") rIntA := call_int1
theorem call_max2A (hc : X.calm = true) : CallR X (.builtin "max") rMax2A := call_max2 hc
theorem call_min2A (hc : X.calm = true) : CallR X (.builtin "min") rMin2A := call_min2 hc
theorem call_isinstanceA : CallR X (.builtin "isinstance") (rIsi X.K) := call_isi
theorem call_isinstanceTA : CallR X (.builtin "isinstance") (rIsiT X.K) := call_isiT
theorem call_allA (hc : X.calm = true) : CallR X (.builtin "all") (rAll X.K) := cr_all hc
theorem call_anyA (hc : X.calm = true) : CallR X (.builtin "any") (rAny X.K) := cr_any hc
theorem op_eqA (hu : X.A.units + 64 < cLine) : OpR X (compareOp .Eq) (rEqA X.K) := op_eq.or (op_eqD hu)
theorem op_neA (hu : X.A.units + 64 < cLine) : OpR X (compareOp .NotEq) (rNeA X.K) := op_ne.or (op_neD hu)
theorem op_ltA : OpR X (compareOp .Lt) rLtA := op_lt.or op_lt_str
theorem op_leA : OpR X (compareOp .LtE) rLeA := op_le
theorem op_gtA : OpR X (compareOp .Gt) rGtA := op_gt
theorem op_geA : OpR X (compareOp .GtE) rGeA := op_ge
theorem op_isA : OpR X (compareOp .Is) rIsA := op_isN.or op_isBl
theorem op_isnotA : OpR X (compareOp .IsNot) rIsNotA := op_notN.or op_notBl
theorem op_inA : OpR X (compareOp .In) (rInA X.K) := op_in_sign.or op_in_seq
theorem op_notInA : OpR X (compareOp .NotIn) (rNotInA X.K) := op_notIn_sign.or op_notIn_seq
theorem sl_A : SlR X (rSlA3 X.K) := sl_str.or sl_list
end

/-! ### a def that may be called by its name -/
structure Cal (P : Program) (w : World) (K : PySem.W.Frag) (mg : Str → Option Value) (base : Heap) (k : Nat) (x : Str) (sp : Sp) : Prop where
  ex : ∃ (f : Addr) (fd : FuncData) (ps : List Str), FnOk P w K mg base L2.CX0 k f fd ps sp ∧ mg x = some (.ref f) ∧ PySem.W.keepIn K (.ref f) = true ∧ Binds K fd ps []
section
variable {X : Cx} {k j : Nat} {x : Str} {sp : Sp} {p pos : Pos} {e : Expr} {es : List Expr} {t : TA}
theorem pe_cA (c : Cal X.prog X.w X.K X.mg X.base k x sp) (hr : Room j X.A) (hk : k ≤ j) (hg : Gl X x) (ha : PA X (e :: es) t)
    (hdb : (x == ("__debug__" : Str)) = false := by decide) (he : starEach (e :: es) X.env = (false, eval e X.env) :: starEach es X.env := by rfl) (hpl : (backTo pos (starEach es X.env)).any (·.1) = false := by rfl) :
    PE X (.Call (.Name x p) (e :: es) [] pos) (tCall sp [] L2.E0 t) := by
  obtain ⟨f, fd, ps, F, hm, kp, b⟩ := c.ex
  exact pe_call F (hr.mono hk) hg hm kp b .nil L2.pass0 ha hdb he hpl
end
section
variable {P : Program} {w : World} {K : PySem.W.Frag} {mg : Str → Option Value} {base : Heap}
/-- what the head tells of one def -/
structure At (K : PySem.W.Frag) (mg : Str → Option Value) (x : Str) (st : Stmt) : Prop where
  ex : ∃ (f : Addr) (fd : FuncData), FunD K x x (defArgs st) (defBody st) (defScope st) [] [] f fd ∧ mg x = some (.ref f)
theorem fnok_of {x : Str} {st : Stmt} {f : Addr} {fd : FuncData} {N ps : List Str} {k : Nat} {sp : Sp} (F : FunD K x x (defArgs st) (defBody st) (defScope st) [] [] f fd) (S : FnScope N ps (defScope st)) (len : ∀ vs H Q E, sp vs H Q E → vs.length = ps.length)
    (hbody : ∀ (cdv : Value) (A : Around) (outer : List Env) (s : Shared) (H : Hp) (vs : List V) (Q : VK) (E : XK), Room k (A.deeper (envOfC x (defScope st) s.heap.objs.size f cdv)) → sp vs H Q E →
      ∃ t, PSs (cxOf L2.CX0 P w K mg base N x (defScope st) f cdv A outer s H E).nox (defBody st) t ∧ t { nx := fun _ H' => Q .non H', rt := Q } (start N vs) H) : FnOk P w K mg base L2.CX0 (k + 1) f fd ps sp := by
  refine F.ok S len fun cdv A outer s H vs Q E hr hsp => ?_
  obtain ⟨t, h, q⟩ := hbody cdv A outer s H vs Q E hr hsp
  exact ⟨t, h.nox, q⟩
theorem cal_of {x : Str} {st : Stmt} {N ps : List Str} {k : Nat} {sp : Sp} (F : At K mg x st) (S : FnScope N ps (defScope st)) (len : ∀ vs H Q E, sp vs H Q E → vs.length = ps.length)
    (hb : ∀ (kV doc pm : Value) (an : Option Addr) (cdv ct : Value) (us : List Value), us.length = ps.length → bindArgs (PySem.W.fnOf x x (defArgs st) (defBody st) (defScope st) .none kV doc pm an cdv ct) ⟨us, []⟩ = pure (ps.zip us))
    (hbody : ∀ (f : Addr) (cdv : Value) (A : Around) (outer : List Env) (s : Shared) (H : Hp) (vs : List V) (Q : VK) (E : XK), Room k (A.deeper (envOfC x (defScope st) s.heap.objs.size f cdv)) → sp vs H Q E →
      ∃ t, PSs (cxOf L2.CX0 P w K mg base N x (defScope st) f cdv A outer s H E).nox (defBody st) t ∧ t { nx := fun _ H' => Q .non H', rt := Q } (start N vs) H) : Cal P w K mg base (k + 1) x sp := by
  obtain ⟨f, fd, F, m⟩ := F.ex
  refine ⟨f, fd, ps, F.ok S len fun cdv A outer s H vs Q E hr hsp => ?_, m, F.kp, F.bindsN hb⟩
  obtain ⟨t, h, q⟩ := hbody f cdv A outer s H vs Q E hr hsp
  exact ⟨t, h.nox, q⟩
end

/-! ### readings, step by step -/
section
variable {K : PySem.W.Frag} {σ : L2.St} {H : Hp} {Q : VK} {QB : Bool → Hp → Prop} {QA : List V → Hp → Prop} {v x y : V} {i j : Nat} {ta tb te tc : TE} {tl : TA} {r r' : R2} {D : Ends} {t u c : TT} {s1 s2 : TS} {a : Addr}
theorem r_var (h : σ[i]? = some (some v)) (q : Q v H) : tVar i σ H Q := ⟨v, h, q⟩
theorem r_c (q : Q v H) : tC v σ H Q := q
theorem r_op (q : ta σ H fun x H1 => tb σ H1 fun y H2 => r x y H2 Q) : tOp r ta tb σ H Q := q
theorem r_un {ru : V → Hp → VK → Prop} (q : ta σ H fun x H1 => ru x H1 Q) : tUn ru ta σ H Q := q
theorem r_nil (q : QA [] H) : tNil σ H QA := q
theorem r_cons (q : te σ H fun x H1 => tl σ H1 fun xs H2 => QA (x :: xs) H2) : tCons te tl σ H QA := q
theorem r_lst (q : tl σ H fun xs H1 => xs.length ≤ sizeLine ∧ ∀ p, H1 p = none → Q (.ref p) (upd H1 p (.lst xs))) : tLst tl σ H Q := q
theorem r_tup (q : tl σ H fun xs H1 => xs.length ≤ sizeLine ∧ ∀ p, H1 p = none → Q (.ref p) (upd H1 p (.tup xs))) : tTup tl σ H Q := q
theorem r_cb {rc : List V → Hp → VK → Prop} (q : tl σ H fun vs H1 => rc vs H1 Q) : tCB rc tl σ H Q := q
theorem r_call {sp : Sp} {dvs : List V} {E : XK} (q : tl σ H fun vs H1 => sp (vs ++ dvs) H1 Q E) : tCall sp dvs E tl σ H Q := q
theorem r_test (q : te σ H fun x H' => ∃ k, x = .bl k ∧ QB k H') : tTest te σ H QB := q
theorem r_B (q : te σ H fun x H' => ∃ k, x = .bl k ∧ QB k H') : tB te σ H QB := q
theorem r_bl {b : Bool} {QC : Bool → Prop} (q : QC b) : ∃ k, V.bl b = .bl k ∧ QC k := ⟨b, rfl, q⟩
theorem r_and (q : t σ H fun c H1 => if c = true then u σ H1 QB else QB false H1) : tAnd t u σ H QB := q
theorem r_or (q : t σ H fun c H1 => if c = true then QB true H1 else u σ H1 QB) : tOr t u σ H QB := q
theorem r_not (q : t σ H fun c H1 => QB (!c) H1) : tNot t σ H QB := q
theorem r_andV (q : ta σ H fun x H1 => ∃ c, x = .bl c ∧ if c = true then tb σ H1 Q else Q (.bl false) H1) : tAndV ta tb σ H Q := q
theorem r_orV (q : ta σ H fun x H1 => ∃ c, x = .bl c ∧ if c = true then Q (.bl true) H1 else tb σ H1 Q) : tOrV ta tb σ H Q := q
theorem r_notV (q : ta σ H fun x H1 => ∃ c, x = .bl c ∧ Q (.bl (!c)) H1) : tNotV ta σ H Q := q
theorem r_if (q : t σ H fun c H1 => if c = true then ta σ H1 Q else tb σ H1 Q) : tIf t ta tb σ H Q := q
theorem r_chain (q : ta σ H fun x H1 => tb σ H1 fun y H2 => r x y H2 fun z H3 => ∃ k, z = .bl k ∧ (if k = true then tc σ H3 fun w' H4 => r' y w' H4 Q else Q (.bl false) H3)) : tChain r r' ta tb tc σ H Q := q
theorem r_sl {rs : V → Option Int → Option Int → Hp → VK → Prop} {tlo thi : TO} (q : te σ H fun x H1 => tlo σ H1 fun l H2 => thi σ H2 fun u H3 => rs x l u H3 Q) : tSl rs te tlo thi σ H Q := q
theorem r_nopart {QO : Option Int → Hp → Prop} (q : QO none H) : tNoPart σ H QO := q
theorem r_part {QO : Option Int → Hp → Prop} (q : te σ H fun x H1 => ∃ i, x = .int i ∧ QO (some i) H1) : tPart te σ H QO := q
theorem r_m1 {rm : V → List V → Hp → VK → Prop} (q : ta σ H fun x H1 => (∃ a, x = .str a) ∧ tb σ H1 fun y H2 => rm x [y] H2 Q) : tM1 rm ta tb σ H Q := q
theorem r_bm {T : String} {rm : V → List V → Hp → VK → Prop} (q : ta σ H fun x H1 => tyV K T x H1 ∧ tl σ H1 fun xs H2 => rm x xs H2 Q) : tBM K T rm ta tl σ H Q := q
theorem r_next (q : D.nx σ H) : tNext D σ H := q
theorem r_seq (q : s1 { D with nx := s2 D } σ H) : tSeq s1 s2 D σ H := q
theorem r_asg (q : te σ H fun x H1 => D.nx (σ.set i (some x)) H1) : tAsg te (gName i) D σ H := q
theorem r_asgS {rs : V → V → V → Hp → (Hp → Prop) → Prop} (q : te σ H fun x H1 => ta σ H1 fun o H2 => tb σ H2 fun ix H3 => rs o ix x H3 fun H4 => D.nx σ H4) : tAsg te (gSub ta tb rs) D σ H := q
theorem r_par (q : tl σ H fun vs H1 => ∃ v w, vs = [v, w] ∧ D.nx ((σ.set i (some v)).set j (some w)) H1) : tPar i j tl D σ H := q
theorem r_ret (q : te σ H D.rt) : tRet te D σ H := q
theorem r_drop (q : te σ H fun _ H1 => D.nx σ H1) : tDrop te D σ H := q
theorem r_ifS (q : c σ H fun b H1 => if b = true then s1 D σ H1 else s2 D σ H1) : tIfS c s1 s2 D σ H := q
theorem r_brk (q : D.bk σ H) : tBreak D σ H := q
theorem r_cont (q : D.ct σ H) : tCont D σ H := q
/-! values -/
theorem r_I0 {g : Int → Int → V} {i j : Int} (q : Q (g i j) H) : rI0 g (.int i) (.int j) H Q := ⟨i, j, rfl, rfl, q⟩
theorem r_I {C : Int → Int → Prop} {g : Int → Int → V} {i j : Int} (c : C i j) (q : Q (g i j) H) : rI C g (.int i) (.int j) H Q := ⟨i, j, rfl, rfl, c, q⟩
theorem r_U {g : Int → V} {i : Int} (q : Q (g i) H) : rU g (.int i) H Q := ⟨i, rfl, q⟩
theorem r_addI {i j : Int} (q : Q (.int (i + j)) H) : rAddA K (.int i) (.int j) H Q := .inl ⟨i, j, rfl, rfl, q⟩
theorem r_addS {i j : Str} (h : i.length + j.length ≤ sizeLine) (q : Q (.str (i ++ j)) H) : rAddA K (.str i) (.str j) H Q := .inr (.inl ⟨i, j, rfl, rfl, h, q⟩)
theorem r_addL {p q : Addr} {xs ys : List V} (h1 : H p = some (.lst xs)) (h2 : H q = some (.lst ys)) (hl : xs.length + ys.length ≤ sizeLine) (k : ∀ l, H l = none → Q (.ref l) (upd H l (.lst (xs ++ ys)))) : rAddA K (.ref p) (.ref q) H Q :=
  .inr (.inr (.inl ⟨p, q, xs, ys, rfl, rfl, h1, h2, hl, k⟩))
theorem r_mulI {i j : Int} (c : CMul i j) (q : Q (.int (i * j)) H) : rMulA (.int i) (.int j) H Q := .inl ⟨i, j, rfl, rfl, c, q⟩
theorem r_lenS {z : Str} (h : z.length ≤ sizeLine) (q : Q (.int (z.length : Nat)) H) : rLenA K [.str z] H Q := ⟨_, _, rfl, ⟨h, rfl⟩, q⟩
theorem r_lenL {p : Addr} {xs : List V} (h : SqL K H p xs) (q : Q (.int (xs.length : Nat)) H) : rLenA K [.ref p] H Q := ⟨_, _, rfl, .inl ⟨_, h, rfl⟩, q⟩
theorem r_lenT {p : Addr} {xs : List V} (h : SqT K H p xs) (q : Q (.int (xs.length : Nat)) H) : rLenA K [.ref p] H Q := ⟨_, _, rfl, .inr ⟨_, h, rfl⟩, q⟩
theorem r_abs {i : Int} (q : Q (.int (if i < 0 then -i else i)) H) : rAbsA [.int i] H Q := ⟨i, rfl, q⟩
theorem r_intI {i : Int} (q : Q (.int i) H) : rIntA [.int i] H Q := .inl ⟨i, rfl, q⟩
theorem r_max2 {i j : Int} (q : Q (.int (if j > i then j else i)) H) : rMax2A [.int i, .int j] H Q := ⟨i, j, rfl, q⟩
theorem r_min2 {i j : Int} (q : Q (.int (if j < i then j else i)) H) : rMin2A [.int i, .int j] H Q := ⟨i, j, rfl, q⟩
theorem r_eqS (h : scal x y = true) (q : Q (.bl (decide (x = y))) H) : rEqA K x y H Q := .inl ⟨h, q⟩
theorem r_neS (h : scal x y = true) (q : Q (.bl (!decide (x = y))) H) : rNeA K x y H Q := .inl ⟨h, q⟩
theorem r_eqD {d e : PyData} (h1 : Dp K H x d) (h2 : Dp K H y e) (s1 : SeqAt.shaped d = true) (s2 : SeqAt.shaped e = true) (q : Q (.bl (PyData.eqv d e)) H) : rEqA K x y H Q := .inr ⟨d, e, h1, h2, s1, s2, q⟩
theorem r_neD {d e : PyData} (h1 : Dp K H x d) (h2 : Dp K H y e) (s1 : SeqAt.shaped d = true) (s2 : SeqAt.shaped e = true) (q : Q (.bl (!PyData.eqv d e)) H) : rNeA K x y H Q := .inr ⟨d, e, h1, h2, s1, s2, q⟩
theorem r_ltI {i j : Int} (q : Q (.bl (decide (i < j))) H) : rLtA (.int i) (.int j) H Q := .inl ⟨i, j, rfl, rfl, q⟩
theorem r_leI {i j : Int} (q : Q (.bl (decide (i ≤ j))) H) : rLeA (.int i) (.int j) H Q := ⟨i, j, rfl, rfl, q⟩
theorem r_gtI {i j : Int} (q : Q (.bl (decide (j < i))) H) : rGtA (.int i) (.int j) H Q := ⟨i, j, rfl, rfl, q⟩
theorem r_geI {i j : Int} (q : Q (.bl (decide (j ≤ i))) H) : rGeA (.int i) (.int j) H Q := ⟨i, j, rfl, rfl, q⟩
theorem r_isN (q : Q (.bl (decide (x = .non))) H) : rIsA x .non H Q := .inl ⟨rfl, q⟩
theorem r_isN_non (q : Q (.bl true) H) : rIsA .non .non H Q := .inl ⟨rfl, q⟩
theorem r_isnotN_non (q : Q (.bl false) H) : rIsNotA .non .non H Q := .inl ⟨rfl, q⟩
theorem r_isN_int {i : Int} (q : Q (.bl false) H) : rIsA (.int i) .non H Q := .inl ⟨rfl, q⟩
theorem r_isnotN_int {i : Int} (q : Q (.bl true) H) : rIsNotA (.int i) .non H Q := .inl ⟨rfl, q⟩
theorem r_isN_str {z : Str} (q : Q (.bl false) H) : rIsA (.str z) .non H Q := .inl ⟨rfl, q⟩
theorem r_isnotN_str {z : Str} (q : Q (.bl true) H) : rIsNotA (.str z) .non H Q := .inl ⟨rfl, q⟩
theorem r_isN_bl {b : Bool} (q : Q (.bl false) H) : rIsA (.bl b) .non H Q := .inl ⟨rfl, q⟩
theorem r_isnotN_bl {b : Bool} (q : Q (.bl true) H) : rIsNotA (.bl b) .non H Q := .inl ⟨rfl, q⟩
theorem r_isN_ref {p : Addr} (q : Q (.bl false) H) : rIsA (.ref p) .non H Q := .inl ⟨rfl, q⟩
theorem r_isnotN_ref {p : Addr} (q : Q (.bl true) H) : rIsNotA (.ref p) .non H Q := .inl ⟨rfl, q⟩
theorem r_isB {a b : Bool} (q : Q (.bl (decide (a = b))) H) : rIsA (.bl a) (.bl b) H Q := .inr ⟨a, b, rfl, rfl, q⟩
theorem r_isnotN (q : Q (.bl (!decide (x = .non))) H) : rIsNotA x .non H Q := .inl ⟨rfl, q⟩
theorem r_isnotB {a b : Bool} (q : Q (.bl (!decide (a = b))) H) : rIsNotA (.bl a) (.bl b) H Q := .inr ⟨a, b, rfl, rfl, q⟩
theorem r_inS {c : Nat} {z : Str} (q : Q (.bl (decide (c ∈ z.cps.toList))) H) : rInA K (.str ⟨#[c]⟩) (.str z) H Q := .inl ⟨c, z, rfl, rfl, q⟩
theorem r_ixL {p : Addr} {xs : List V} {i : Int} (h : SqL K H p xs) (ha : atI xs i = some v) (q : Q v H) : rIx K (.ref p) (.int i) H Q := .inl ⟨p, xs, i, v, rfl, rfl, h, ha, q⟩
theorem r_ixT {p : Addr} {xs : List V} {i : Int} (h : SqT K H p xs) (ha : atI xs i = some v) (q : Q v H) : rIx K (.ref p) (.int i) H Q := .inr (.inl ⟨p, xs, i, v, rfl, rfl, h, ha, q⟩)
theorem r_ixS {z : Str} {i : Int} {c : Nat} (h : z.length ≤ sizeLine) (ha : atI z.cps.toList i = some c) (q : Q (.str ⟨#[c]⟩) H) : rIx K (.str z) (.int i) H Q := .inr (.inr ⟨z, i, c, rfl, rfl, h, ha, q⟩)
theorem r_setL {p : Addr} {xs : List V} {k : Int} {j : Nat} {QH : Hp → Prop} (h : H p = some (.lst xs)) (hj : ixN xs.length k = some j) (q : QH (upd H p (.lst (xs.set j v)))) : rSetL (.ref p) (.int k) v H QH := ⟨p, xs, k, j, rfl, rfl, h, hj, q⟩
theorem r_intO {i : Int} {QC : Int → Prop} (q : QC i) : ∃ k, V.int i = .int k ∧ QC k := ⟨i, rfl, q⟩
theorem r_two {v w : V} {QC : V → V → Prop} (q : QC v w) : ∃ v1 w1, [v, w] = [v1, w1] ∧ QC v1 w1 := ⟨v, w, rfl, q⟩
theorem r_slS {z : Str} {lo hi : Option Int} (h : z.length ≤ sizeLine) (q : Q (.str (cutS z lo hi)) H) : rSlA3 K (.str z) lo hi H Q := .inl ⟨z, rfl, h, q⟩
theorem r_slL {p : Addr} {xs : List V} {lo hi : Option Int} (h : SqL K H p xs) (q : ∀ l, H l = none → Q (.ref l) (upd H l (.lst (cutV xs lo hi)))) : rSlA3 K (.ref p) lo hi H Q := .inr ⟨p, xs, rfl, h, q⟩
theorem r_app {p : Addr} {xs : List V} (h : H p = some (.lst xs)) (hl : xs.length < sizeLine) (q : Q .non (upd H p (.lst (xs ++ [y])))) : rAppend (.ref p) [y] H Q := ⟨p, xs, y, rfl, rfl, h, hl, q⟩
theorem r_tyL {p : Addr} {xs : List V} {R : Prop} (h : SqL K H p xs) (q : R) : tyV K "list" (.ref p) H ∧ R := ⟨.inl ⟨rfl, _, h⟩, q⟩
end

theorem iteD {p : Prop} {dp : Decidable p} {A B : Prop} (h1 : p → A) (h2 : ¬ p → B) : if decide p = true then A else B := by
  by_cases h : p
  · rw [if_pos (decide_eq_true h)]
    exact h1 h
  · rw [if_neg (by simp [h])]
    exact h2 h
theorem iteND {p : Prop} {dp : Decidable p} {A B : Prop} (h1 : ¬ p → A) (h2 : p → B) : if (!decide p) = true then A else B := by
  by_cases h : p
  · rw [if_neg (by simp [h])]
    exact h2 h
  · rw [if_pos (by simp [h])]
    exact h1 h
theorem iteB {c : Bool} {A B : Prop} (h1 : c = true → A) (h2 : c = false → B) : if c = true then A else B := by
  cases c with
  | true => rw [if_pos rfl]; exact h1 rfl
  | false => rw [if_neg Bool.false_ne_true]; exact h2 rfl
theorem iteNB {c : Bool} {A B : Prop} (h1 : c = false → A) (h2 : c = true → B) : if (!c) = true then A else B := by
  cases c with
  | true => exact h2 rfl
  | false => exact h1 rfl
/-! ### loops -/
section
variable {K : PySem.W.Frag} {σ : L2.St} {H : Hp} {D : Ends} {wi : TI} {g : TG} {tb : TS} {ta : TA} {te : TE}
theorem r_for (q : wi σ H fun J H1 => ∃ W : Nat → Nat → L2.St → Hp → Prop, (∃ m, W 0 m σ H1) ∧ ∀ i m σ H, W i m σ H →
      (J.stop i H ∧ D.nx σ H) ∨ (J.go i H ∧ ∃ N : L2.St → Hp → Prop, (∀ σ' H', N σ' H' → ∃ m', m' < m ∧ W (i + 1) m' σ' H') ∧ ∀ x H', J.yld i H x H' → g x σ H' fun σ2 H2 => tb { D with nx := N, ct := N, bk := D.nx } σ2 H2)) : tFor wi g tb D σ H := q
theorem r_rng1 {R : It → Hp → Prop} (q : ta σ H fun vs H1 => ∃ j : Int, vs = [.int j] ∧ -(2 ^ 62) ≤ j ∧ j < 2 ^ 62 ∧ R (Itr 0 j.toNat) H1) : iRng1 ta σ H R := q
theorem r_iList {R : It → Hp → Prop} (q : te σ H fun x H1 => ∃ a, x = .ref a ∧ (∃ xs, SqL K H1 a xs) ∧ R (Itl K a) H1) : iList K te σ H R := q
theorem r_lc {tt : TT} {vs : List Nat} {Q : VK} (q : wi σ H fun J H1 => ∀ D, H1 D = none → ∃ W : Nat → Nat → Hp → Prop, (∃ m, W 0 m (upd H1 D (.lst []))) ∧ ∀ i m H, W i m H →
  (J.stop i H ∧ Q (.ref D) H) ∨ (J.go i H ∧ ∃ Nx : Hp → Prop, (∀ H', Nx H' → ∃ m', m' < m ∧ W (i + 1) m' H') ∧ ∀ x H', J.yld i H x H' → g x (wipe σ vs) H' fun σ2 H2 => wipe σ2 vs = wipe σ vs ∧ tt σ2 H2 fun b H3 =>
    if b = true then te σ2 H3 fun y H4 => ∃ acc, H4 D = some (.lst acc) ∧ acc.length < sizeLine ∧ Nx (upd H4 D (.lst (acc ++ [y]))) else Nx H3)) : tLc wi g tt te vs σ H Q := q
theorem r_yes {QB : Bool → Hp → Prop} (q : QB true H) : tYes σ H QB := q
theorem r_gN {i : Nat} {v : V} {R : L2.St → Hp → Prop} (q : R (σ.set i (some v)) H) : gName i v σ H R := q
end

/-! ### the heap without the bag -/
def hid (b : Addr) (H : Hp) : Hp := fun a => if a = b then none else H a
section
variable {b a p : Addr} {H H' : Hp} {o o' : HO}
theorem hid_of (h : H a = some o) (ne : a ≠ b) : hid b H a = some o := by unfold hid; rw [if_neg ne]; exact h
theorem hid_get (h : hid b H a = some o) : H a = some o := by
  unfold hid at h
  by_cases e : a = b
  · rw [if_pos e] at h; cases h
  · rw [if_neg e] at h; exact h
theorem hid_ne (h : hid b H a = some o) : a ≠ b := by
  intro e
  unfold hid at h
  rw [if_pos e] at h
  cases h
theorem hid_bag : hid b (upd H b o) = hid b H := by
  funext a
  unfold hid
  by_cases e : a = b
  · rw [if_pos e, if_pos e]
  · rw [if_neg e, if_neg e, upd_ne e]
theorem hid_up (h : p ≠ b) : hid b (upd H p o) = upd (hid b H) p o := by
  funext a
  unfold hid
  by_cases e : a = b
  · rw [if_pos e, upd_ne (by rw [e]; exact h.symm), if_pos e]
  · by_cases e2 : a = p
    · rw [if_neg e, e2, upd_same, upd_same]
    · rw [if_neg e, upd_ne e2, upd_ne e2, if_neg e]
theorem hid_ex : Evl.Ex (hid b H) H := fun _ _ h => hid_get h
theorem hid_none (h : H p = none) : hid b H p = none := by
  unfold hid
  by_cases e : p = b
  · rw [if_pos e]
  · rw [if_neg e]; exact h
end
def BagL (n : Nat) (l : List V) : Prop := ∃ x y z : Int, l = [.int x, .int y, .int z] ∧ 0 ≤ y ∧ y ≤ 4294967296 ∧ 0 ≤ z ∧ z ≤ (n : Int)
theorem BagL.mono {n m : Nat} {l : List V} (h : BagL n l) (e : n ≤ m) : BagL m l := by
  obtain ⟨x, y, z, rfl, h1, h2, h3, h4⟩ := h
  exact ⟨x, y, z, rfl, h1, h2, h3, by omega⟩
/-- the bag at b, so many draws at most so far -/
def Bag (b : Addr) (n : Nat) (H : Hp) : Prop := ∃ l, H b = some (.lst l) ∧ BagL n l
structure Drw (b : Addr) (n : Nat) (H H' : Hp) : Prop where
  ex : Evl.Ex (hid b H) (hid b H')
  bag : Bag b n H'
theorem Drw.trans {b : Addr} {n m : Nat} {H H1 H2 : Hp} (x : Drw b n H H1) (y : Drw b m H1 H2) : Drw b m H H2 := ⟨x.ex.trans y.ex, y.bag⟩
theorem Bag.mono {b : Addr} {n m : Nat} {H : Hp} (h : Bag b n H) (e : n ≤ m) : Bag b m H := let ⟨l, h1, h2⟩ := h; ⟨l, h1, h2.mono e⟩
theorem Drw.mono {b : Addr} {n m : Nat} {H H' : Hp} (h : Drw b n H H') (e : n ≤ m) : Drw b m H H' := ⟨h.ex, h.bag.mono e⟩
theorem Bag.refl {b : Addr} {n : Nat} {H : Hp} (h : Bag b n H) : Drw b n H H := ⟨Evl.Ex.refl _, h⟩
/-- a new object -/
theorem Bag.new {b p : Addr} {n : Nat} {H : Hp} {o : HO} (h : Bag b n H) (hp : H p = none) : Drw b n H (upd H p o) ∧ hid b (upd H p o) p = some o := by
  obtain ⟨l, h1, h2⟩ := h
  have ne : p ≠ b := (ne_of_none h1 hp).symm
  refine ⟨⟨?_, l, ?_, h2⟩, ?_⟩
  · rw [hid_up ne]
    exact Evl.Ex.new (hid_none hp)
  · rw [upd_ne ne.symm]; exact h1
  · exact hid_of upd_same ne
/-- an object that is not the bag and that H0 did not know is changed -/
theorem Drw.put {b p : Addr} {n : Nat} {H0 H : Hp} {o : HO} (h : Drw b n H0 H) (hp : hid b H0 p = none) (ne : p ≠ b) : Drw b n H0 (upd H p o) := by
  obtain ⟨l, h1, h2⟩ := h.bag
  refine ⟨?_, l, ?_, h2⟩
  · rw [hid_up ne]
    exact Evl.Ex.mut h.ex hp
  · rw [upd_ne ne.symm]; exact h1
theorem Drw.l {K : PySem.W.Frag} {b a : Addr} {n : Nat} {H H' : Hp} {xs : List V} (h : Drw b n H H') (s : SqL K (hid b H) a xs) : SqL K (hid b H') a xs := Evl.ex_l h.ex s
theorem Drw.t {K : PySem.W.Frag} {b a : Addr} {n : Nat} {H H' : Hp} {xs : List V} (h : Drw b n H H') (s : SqT K (hid b H) a xs) : SqT K (hid b H') a xs := Evl.ex_t h.ex s
def SqA (K : PySem.W.Frag) (H : Hp) (a : Addr) (xs : List V) : Prop := SqL K H a xs ∨ SqT K H a xs
theorem SqA.mono {K : PySem.W.Frag} {H H' : Hp} {a : Addr} {xs : List V} (e : Evl.Ex H H') (h : SqA K H a xs) : SqA K H' a xs := by
  rcases h with h | h
  · exact .inl (Evl.ex_l e h)
  · exact .inr (Evl.ex_t e h)
/-- a word of small letters -/
def Word (m : Nat) (z : Str) : Prop := z.length ≤ m ∧ ∀ c ∈ z.cps.toList, 97 ≤ c ∧ c ≤ 122
/-- a class name -/
def Let (c : Nat) : Prop := (97 ≤ c ∧ c ≤ 122) ∨ (65 ≤ c ∧ c ≤ 90)
def ClsN (z : Str) : Prop := ∃ (c : Nat) (r : List Nat), z.cps.toList = c :: r ∧ (65 ≤ c ∧ c ≤ 90) ∧ (∀ d ∈ r, Let d) ∧ r.length ≤ 11
/-! ### isinstance -/
section
variable {K : PySem.W.Frag} {H : Hp} {Q : VK}
theorem ty_lst {a : Addr} {xs : List V} (h : SqL K H a xs) : TyX K H (.ref a) (.type "list") := by
  rcases h with (h | ⟨o, h⟩) | ⟨o, its, n, h1, h2, h3⟩
  · exact .base (.lst h)
  · exact .base (.frz h)
  · exact .kList h1 h2
theorem ty_tup {a : Addr} {xs : List V} (h : SqT K H a xs) : TyX K H (.ref a) (.type "tuple") := by
  rcases h with (h | ⟨o, h⟩) | ⟨o, its, n, h1, h2, h3⟩
  · exact .base (.tup h)
  · exact .fTuple h
  · exact .kTuple h1 h2
theorem r_isi {x : V} {n m : String} {b : Bool} (ty : TyX K H x (.type n)) (h : kitB n m = some b) (q : Q (.bl b) H) : rIsi K [x, .ty m] H Q := ⟨x, .ty m, _, _, b, rfl, .ty m, ty, kit_ty h, q⟩
theorem r_isi_non_int (q : Q (.bl false) H) : rIsi K [.non, .ty "int"] H Q := r_isi (TyX.base .non) (by decide +kernel) q
theorem r_isi_non_str (q : Q (.bl false) H) : rIsi K [.non, .ty "str"] H Q := r_isi (TyX.base .non) (by decide +kernel) q
theorem r_isi_non_list (q : Q (.bl false) H) : rIsi K [.non, .ty "list"] H Q := r_isi (TyX.base .non) (by decide +kernel) q
theorem r_isi_non_tuple (q : Q (.bl false) H) : rIsi K [.non, .ty "tuple"] H Q := r_isi (TyX.base .non) (by decide +kernel) q
theorem r_isi_non_bool (q : Q (.bl false) H) : rIsi K [.non, .ty "bool"] H Q := r_isi (TyX.base .non) (by decide +kernel) q
theorem r_isi_bl_int {b : Bool} (q : Q (.bl true) H) : rIsi K [(.bl b), .ty "int"] H Q := r_isi (TyX.base (.bl b)) (by decide +kernel) q
theorem r_isi_bl_str {b : Bool} (q : Q (.bl false) H) : rIsi K [(.bl b), .ty "str"] H Q := r_isi (TyX.base (.bl b)) (by decide +kernel) q
theorem r_isi_bl_list {b : Bool} (q : Q (.bl false) H) : rIsi K [(.bl b), .ty "list"] H Q := r_isi (TyX.base (.bl b)) (by decide +kernel) q
theorem r_isi_bl_tuple {b : Bool} (q : Q (.bl false) H) : rIsi K [(.bl b), .ty "tuple"] H Q := r_isi (TyX.base (.bl b)) (by decide +kernel) q
theorem r_isi_bl_bool {b : Bool} (q : Q (.bl true) H) : rIsi K [(.bl b), .ty "bool"] H Q := r_isi (TyX.base (.bl b)) (by decide +kernel) q
theorem r_isi_int_int {i : Int} (q : Q (.bl true) H) : rIsi K [(.int i), .ty "int"] H Q := r_isi (TyX.base (.int i)) (by decide +kernel) q
theorem r_isi_int_str {i : Int} (q : Q (.bl false) H) : rIsi K [(.int i), .ty "str"] H Q := r_isi (TyX.base (.int i)) (by decide +kernel) q
theorem r_isi_int_list {i : Int} (q : Q (.bl false) H) : rIsi K [(.int i), .ty "list"] H Q := r_isi (TyX.base (.int i)) (by decide +kernel) q
theorem r_isi_int_tuple {i : Int} (q : Q (.bl false) H) : rIsi K [(.int i), .ty "tuple"] H Q := r_isi (TyX.base (.int i)) (by decide +kernel) q
theorem r_isi_int_bool {i : Int} (q : Q (.bl false) H) : rIsi K [(.int i), .ty "bool"] H Q := r_isi (TyX.base (.int i)) (by decide +kernel) q
theorem r_isi_str_int {z : Str} (q : Q (.bl false) H) : rIsi K [(.str z), .ty "int"] H Q := r_isi (TyX.base (.str z)) (by decide +kernel) q
theorem r_isi_str_str {z : Str} (q : Q (.bl true) H) : rIsi K [(.str z), .ty "str"] H Q := r_isi (TyX.base (.str z)) (by decide +kernel) q
theorem r_isi_str_list {z : Str} (q : Q (.bl false) H) : rIsi K [(.str z), .ty "list"] H Q := r_isi (TyX.base (.str z)) (by decide +kernel) q
theorem r_isi_str_tuple {z : Str} (q : Q (.bl false) H) : rIsi K [(.str z), .ty "tuple"] H Q := r_isi (TyX.base (.str z)) (by decide +kernel) q
theorem r_isi_str_bool {z : Str} (q : Q (.bl false) H) : rIsi K [(.str z), .ty "bool"] H Q := r_isi (TyX.base (.str z)) (by decide +kernel) q
theorem r_isi_lst_int {p : Addr} {xs : List V} (h : SqL K H p xs) (q : Q (.bl false) H) : rIsi K [(.ref p), .ty "int"] H Q := r_isi (ty_lst h) (by decide +kernel) q
theorem r_isi_lst_str {p : Addr} {xs : List V} (h : SqL K H p xs) (q : Q (.bl false) H) : rIsi K [(.ref p), .ty "str"] H Q := r_isi (ty_lst h) (by decide +kernel) q
theorem r_isi_lst_list {p : Addr} {xs : List V} (h : SqL K H p xs) (q : Q (.bl true) H) : rIsi K [(.ref p), .ty "list"] H Q := r_isi (ty_lst h) (by decide +kernel) q
theorem r_isi_lst_tuple {p : Addr} {xs : List V} (h : SqL K H p xs) (q : Q (.bl false) H) : rIsi K [(.ref p), .ty "tuple"] H Q := r_isi (ty_lst h) (by decide +kernel) q
theorem r_isi_lst_bool {p : Addr} {xs : List V} (h : SqL K H p xs) (q : Q (.bl false) H) : rIsi K [(.ref p), .ty "bool"] H Q := r_isi (ty_lst h) (by decide +kernel) q
theorem r_isi_tup_int {p : Addr} {xs : List V} (h : SqT K H p xs) (q : Q (.bl false) H) : rIsi K [(.ref p), .ty "int"] H Q := r_isi (ty_tup h) (by decide +kernel) q
theorem r_isi_tup_str {p : Addr} {xs : List V} (h : SqT K H p xs) (q : Q (.bl false) H) : rIsi K [(.ref p), .ty "str"] H Q := r_isi (ty_tup h) (by decide +kernel) q
theorem r_isi_tup_list {p : Addr} {xs : List V} (h : SqT K H p xs) (q : Q (.bl false) H) : rIsi K [(.ref p), .ty "list"] H Q := r_isi (ty_tup h) (by decide +kernel) q
theorem r_isi_tup_tuple {p : Addr} {xs : List V} (h : SqT K H p xs) (q : Q (.bl true) H) : rIsi K [(.ref p), .ty "tuple"] H Q := r_isi (ty_tup h) (by decide +kernel) q
theorem r_isi_tup_bool {p : Addr} {xs : List V} (h : SqT K H p xs) (q : Q (.bl false) H) : rIsi K [(.ref p), .ty "bool"] H Q := r_isi (ty_tup h) (by decide +kernel) q
end
/-! ### plain values as data -/
def datV : V → PyData
  | .non => .none
  | .bl b => .bool b
  | .int i => .int i
  | .str z => .str z
  | _ => .none
def Sc : V → Prop
  | .non => True
  | .bl _ => True
  | .int _ => True
  | .str z => PyData.strOk z = true
  | _ => False
theorem dp_sc {K : PySem.W.Frag} {H : Hp} {v : V} (h : Sc v) : Dp K H v (datV v) := by
  cases v with
  | non => exact .non
  | bl b => exact .bl b
  | int i => exact .int i
  | str z => exact .str z
  | _ => exact h.elim
theorem dpAll_sc {K : PySem.W.Frag} {H : Hp} : ∀ {xs : List V}, (∀ v ∈ xs, Sc v) → DpAll K H xs (xs.map datV)
  | [], _ => .nil
  | v :: r, h => .cons (dp_sc (h v (List.mem_cons_self ..))) (dpAll_sc fun u hu => h u (List.mem_cons_of_mem _ hu))
theorem canLay_sc {v : V} (h : Sc v) : (datV v).canLay0 = true ∧ (datV v).depth = 0 := by
  cases v with
  | str z => exact ⟨by simpa [datV, PyData.canLay0] using (show PyData.strOk z = true from h), by simp [datV, PyData.depth]⟩
  | non => exact ⟨by simp [datV, PyData.canLay0], by simp [datV, PyData.depth]⟩
  | bl z => exact ⟨by simp [datV, PyData.canLay0], by simp [datV, PyData.depth]⟩
  | int z => exact ⟨by simp [datV, PyData.canLay0], by simp [datV, PyData.depth]⟩
  | _ => exact h.elim
theorem canLayAll_sc : ∀ {xs : List V}, (∀ v ∈ xs, Sc v) → PyData.canLayAll0 (xs.map datV) = true ∧ PyData.depthAll (xs.map datV) = 0
  | [], _ => ⟨by simp [PyData.canLayAll0], by simp [PyData.depthAll]⟩
  | v :: r, h => by
    have h1 := canLay_sc (h v (List.mem_cons_self ..))
    have h2 := canLayAll_sc (xs := r) fun u hu => h u (List.mem_cons_of_mem _ hu)
    exact ⟨by simp [PyData.canLayAll0, h1.1, h2.1], by simp [PyData.depthAll, h1.2, h2.2]⟩
theorem shaped_list {xs : List V} (h : ∀ v ∈ xs, Sc v) : SeqAt.shaped (.list (xs.map datV)) = true := by
  have h2 := canLayAll_sc h
  simp [SeqAt.shaped, PyData.canLay0, PyData.depth, h2.1, h2.2]
theorem shaped_tuple {xs : List V} (h : ∀ v ∈ xs, Sc v) : SeqAt.shaped (.tuple (xs.map datV)) = true := by
  have h2 := canLayAll_sc h
  simp [SeqAt.shaped, PyData.canLay0, PyData.depth, h2.1, h2.2]
theorem eqv_same {d : PyData} (h : SeqAt.shaped d = true) : PyData.eqv d d = true := SeqAt.eqv_refl d (SeqAt.canLay_of_shaped h)
theorem word_ok {m : Nat} {z : Str} (h : Word m z) : PyData.strOk z = true := by
  unfold PyData.strOk
  rw [← Array.all_toList, List.all_eq_true]
  intro c hc
  have := h.2 c hc
  exact decide_eq_true (by omega)
theorem str_ok {z : Str} (h : ∀ c ∈ z.cps.toList, c < 1114112) : PyData.strOk z = true := by
  unfold PyData.strOk
  rw [← Array.all_toList, List.all_eq_true]
  intro c hc
  exact decide_eq_true (h c hc)
theorem cls_ok {z : Str} (h : ClsN z) : PyData.strOk z = true := by
  obtain ⟨c, r, e, h1, h2, _⟩ := h
  refine str_ok fun d hd => ?_
  rw [e] at hd
  rcases List.mem_cons.mp hd with rfl | hd
  · omega
  · rcases h2 d hd with h | h <;> omega
/-- a bag just made: what stood before is what is seen without it -/
theorem hid_start {b : Addr} {H : Hp} {o : HO} (h : H b = none) : hid b (upd H b o) = H := by
  rw [hid_bag]
  funext a
  unfold hid
  by_cases e : a = b
  · rw [if_pos e, e, h]
  · rw [if_neg e]
theorem iteY {p : Prop} {dp : Decidable p} {A B : Prop} (hc : p) (h : A) : if decide p = true then A else B := by rw [if_pos (decide_eq_true hc)]; exact h
theorem iteN {p : Prop} {dp : Decidable p} {A B : Prop} (hc : ¬ p) (h : B) : if decide p = true then A else B := by rw [if_neg (by simp [hc])]; exact h
theorem iteNY {p : Prop} {dp : Decidable p} {A B : Prop} (hc : p) (h : B) : if (!decide p) = true then A else B := by rw [if_neg (by simp [hc])]; exact h
theorem iteNN {p : Prop} {dp : Decidable p} {A B : Prop} (hc : ¬ p) (h : A) : if (!decide p) = true then A else B := by rw [if_pos (by simp [hc])]; exact h
theorem r_neDF {K : PySem.W.Frag} {H : Hp} {Q : VK} {x y : V} {d : PyData} (h1 : Dp K H x d) (h2 : Dp K H y d) (s : SeqAt.shaped d = true) (q : Q (.bl false) H) : rNeA K x y H Q := .inr ⟨d, d, h1, h2, s, s, by rw [eqv_same s]; exact q⟩
theorem r_eqDT {K : PySem.W.Frag} {H : Hp} {Q : VK} {x y : V} {d : PyData} (h1 : Dp K H x d) (h2 : Dp K H y d) (s : SeqAt.shaped d = true) (q : Q (.bl true) H) : rEqA K x y H Q := .inr ⟨d, d, h1, h2, s, s, by rw [eqv_same s]; exact q⟩
/-- the built-in names that stand -/
structure Bl (mg : Str → Option Value) : Prop where
  len : mg "len" = none
  abs : mg "abs" = none
  max : mg "max" = none
  min : mg "min" = none
  isinstance : mg "isinstance" = none
  range : mg "range" = none
  int : mg "int" = none
  str : mg "str" = none
  list : mg "list" = none
  tuple : mg "tuple" = none
  bool : mg "bool" = none
  dict : mg "dict" = none
  all : mg "all" = none
  any : mg "any" = none
  enumerate : mg "enumerate" = none
  sorted : mg "sorted" = none
  repr : mg "repr" = none
def blNames : List Str := ["len", "abs", "max", "min", "isinstance", "range", "int", "str", "list", "tuple", "bool", "dict", "all", "any", "enumerate", "sorted", "repr"]
/-! ### the head's facts -/
theorem at_of {fa : List He.Fa} {fn : List He.DefD} {K : PySem.W.Frag} {mg : Str → Option Value} {h : Heap} {x : Str} {st : Stmt} (X : K.In h) (G : h.Ns mainGlobals mg) (c : He.SaysD fa fn K) (i j : Nat)
    (h1 : fn[i]? = some ⟨(x, none), x, x, defArgs st, defBody st, defScope st, [], []⟩ := by rfl) (h2 : fa[j]? = some (.glo x) := by rfl) : At K mg x st := by
  obtain ⟨fd, F⟩ := c.def_ i h1
  exact ⟨_, fd, F, He.glo_ok X G (c.fact j h2)⟩
def blFa : List He.Fa := [.free "len", .free "abs", .free "max", .free "min", .free "isinstance", .free "range", .free "int", .free "str", .free "list", .free "tuple", .free "bool", .free "dict", .free "all", .free "any", .free "enumerate", .free "sorted", .free "repr"]
theorem bl_of {fa : List He.Fa} {fn : List He.DefD} {K : PySem.W.Frag} {mg : Str → Option Value} {h : Heap} (X : K.In h) (G : h.Ns mainGlobals mg) (c : He.SaysD (blFa ++ fa) fn K) : Bl mg where
  len := He.free_ok X G (c.fact 0 (f := .free "len") rfl)
  abs := He.free_ok X G (c.fact 1 (f := .free "abs") rfl)
  max := He.free_ok X G (c.fact 2 (f := .free "max") rfl)
  min := He.free_ok X G (c.fact 3 (f := .free "min") rfl)
  isinstance := He.free_ok X G (c.fact 4 (f := .free "isinstance") rfl)
  range := He.free_ok X G (c.fact 5 (f := .free "range") rfl)
  int := He.free_ok X G (c.fact 6 (f := .free "int") rfl)
  str := He.free_ok X G (c.fact 7 (f := .free "str") rfl)
  list := He.free_ok X G (c.fact 8 (f := .free "list") rfl)
  tuple := He.free_ok X G (c.fact 9 (f := .free "tuple") rfl)
  bool := He.free_ok X G (c.fact 10 (f := .free "bool") rfl)
  dict := He.free_ok X G (c.fact 11 (f := .free "dict") rfl)
  all := He.free_ok X G (c.fact 12 (f := .free "all") rfl)
  any := He.free_ok X G (c.fact 13 (f := .free "any") rfl)
  enumerate := He.free_ok X G (c.fact 14 (f := .free "enumerate") rfl)
  sorted := He.free_ok X G (c.fact 15 (f := .free "sorted") rfl)
  repr := He.free_ok X G (c.fact 16 (f := .free "repr") rfl)
end WP

set_option Elab.async false
set_option linter.all false
set_option maxRecDepth 100000
set_option maxHeartbeats 4000000
namespace WP
open PySem PySem.Spec PyProof.Rows L2
local macro_rules | `(tactic| walk_at "rd") => `(tactic| repeat (first
  | with_reducible refine r_seq ?_ | with_reducible refine r_var rfl ?_ | with_reducible refine r_c ?_ | with_reducible refine r_op ?_ | with_reducible refine r_cons ?_ | with_reducible refine r_nil ?_
  | with_reducible refine r_cb ?_ | with_reducible refine r_call ?_ | with_reducible refine r_test ?_ | with_reducible refine r_B ?_ | with_reducible refine r_bl ?_ | with_reducible refine r_asg ?_ | with_reducible refine r_asgS ?_
  | with_reducible refine r_ret ?_ | with_reducible refine r_drop ?_ | with_reducible refine r_ifS ?_ | with_reducible refine r_if ?_ | with_reducible refine r_and ?_ | with_reducible refine r_or ?_ | with_reducible refine r_not ?_
  | with_reducible refine r_andV ?_ | with_reducible refine r_orV ?_ | with_reducible refine r_notV ?_ | with_reducible refine r_chain ?_ | with_reducible refine r_sl ?_ | with_reducible refine r_nopart ?_ | with_reducible refine r_part ?_
  | with_reducible refine r_intO ?_ | with_reducible refine r_two ?_ | with_reducible refine r_m1 ?_ | with_reducible refine r_bm ?_ | with_reducible refine r_next ?_ | with_reducible refine r_for ?_ | with_reducible refine r_rng1 ?_ | with_reducible refine r_iList ?_ | with_reducible refine r_lc ?_ | with_reducible refine r_yes ?_ | with_reducible refine r_gN ?_ | with_reducible refine r_par ?_ | with_reducible refine r_un ?_ | with_reducible refine r_brk ?_ | with_reducible refine r_cont ?_
  | with_reducible refine r_I0 ?_ | with_reducible refine r_U ?_ | with_reducible refine r_addI ?_ | with_reducible refine r_abs ?_ | with_reducible refine r_intI ?_ | with_reducible refine r_max2 ?_ | with_reducible refine r_min2 ?_
  | with_reducible refine r_ltI ?_ | with_reducible refine r_leI ?_ | with_reducible refine r_gtI ?_ | with_reducible refine r_geI ?_ | with_reducible refine r_isN_non ?_ | with_reducible refine r_isN_int ?_ | with_reducible refine r_isN_str ?_ | with_reducible refine r_isN_bl ?_ | with_reducible refine r_isN_ref ?_ | with_reducible refine r_isN ?_ | with_reducible refine r_isB ?_ | with_reducible refine r_isnotN_non ?_ | with_reducible refine r_isnotN_int ?_ | with_reducible refine r_isnotN_str ?_ | with_reducible refine r_isnotN_bl ?_ | with_reducible refine r_isnotN_ref ?_ | with_reducible refine r_isnotN ?_ | with_reducible refine r_isnotB ?_
  | with_reducible refine r_inS ?_ | with_reducible refine r_eqS rfl ?_ | with_reducible refine r_neS rfl ?_ | with_reducible refine r_lst ?_ | with_reducible refine r_tup ?_ | with_reducible refine iteT ?_ | with_reducible refine iteF ?_))
local macro_rules | `(tactic| walk_at "isi") => `(tactic| (first
  | with_reducible refine r_isi_non_int ?_
  | with_reducible refine r_isi_non_str ?_
  | with_reducible refine r_isi_non_list ?_
  | with_reducible refine r_isi_non_tuple ?_
  | with_reducible refine r_isi_non_bool ?_
  | with_reducible refine r_isi_bl_int ?_
  | with_reducible refine r_isi_bl_str ?_
  | with_reducible refine r_isi_bl_list ?_
  | with_reducible refine r_isi_bl_tuple ?_
  | with_reducible refine r_isi_bl_bool ?_
  | with_reducible refine r_isi_int_int ?_
  | with_reducible refine r_isi_int_str ?_
  | with_reducible refine r_isi_int_list ?_
  | with_reducible refine r_isi_int_tuple ?_
  | with_reducible refine r_isi_int_bool ?_
  | with_reducible refine r_isi_str_int ?_
  | with_reducible refine r_isi_str_str ?_
  | with_reducible refine r_isi_str_list ?_
  | with_reducible refine r_isi_str_tuple ?_
  | with_reducible refine r_isi_str_bool ?_
  | with_reducible refine r_isi_lst_int (SqL.of (by assumption)) ?_
  | with_reducible refine r_isi_lst_str (SqL.of (by assumption)) ?_
  | with_reducible refine r_isi_lst_list (SqL.of (by assumption)) ?_
  | with_reducible refine r_isi_lst_tuple (SqL.of (by assumption)) ?_
  | with_reducible refine r_isi_lst_bool (SqL.of (by assumption)) ?_
  | with_reducible refine r_isi_tup_int (SqT.of (by assumption)) ?_
  | with_reducible refine r_isi_tup_str (SqT.of (by assumption)) ?_
  | with_reducible refine r_isi_tup_list (SqT.of (by assumption)) ?_
  | with_reducible refine r_isi_tup_tuple (SqT.of (by assumption)) ?_
  | with_reducible refine r_isi_tup_bool (SqT.of (by assumption)) ?_))
local macro_rules | `(tactic| walk_at "rs") => `(tactic| (first
  | walk_at "isi"
  | refine r_ixL (SqL.of (by assumption)) rfl ?_ | refine r_ixL (SqL.of upd_same) rfl ?_
  | refine r_I (C := fun _ j => 0 < j) (by first | decide | assumption | omega) ?_
  | refine r_mulI (.inl ⟨by decide, by decide⟩) ?_ | refine r_mulI (.inr ⟨by decide, by decide⟩) ?_ | refine r_mulI (.inr ⟨by omega, by omega⟩) ?_ | refine r_mulI (.inl ⟨by omega, by omega⟩) ?_
  | refine r_I (wide_div (b := 64) (by decide) (by decide) (by decide) (by decide)) ?_
  | refine r_I (C := CPow) ⟨by decide, by decide, by decide⟩ ?_
  | refine r_setL (by assumption) rfl ?_ | refine r_setL upd_same rfl ?_))
local macro_rules | `(tactic| walk_at "rx") => `(tactic| (walk_at "rd"; (repeat (walk_at "rs"; walk_at "rd"))))

def top (i : Nat) : Stmt := PySem.Challenge.pw_whatpasses_k06_weights.main.body.getD i (.Pass ⟨0, 0, 0, 0⟩)
/-! ### the draws -/
def spTake : Sp := fun vs H Q _ => ∃ (b : Addr) (m : Int) (n : Nat), vs = [.ref b, .int m] ∧ Bag b n H ∧ n < 1000000000000 ∧ 0 < m ∧ m < 2 ^ 200 ∧
  ∀ (d : Int) (H' : Hp), 0 ≤ d → d < m → Drw b (n + 1) H H' → Q (.int d) H'
abbrev s_law_take : Stmt := top 4
abbrev N_law_take : List Str := ["_law_bag_here", "_law_many", "_law_digit", "_law_mixed"]
theorem sc_law_take : FnScope N_law_take ["_law_bag_here", "_law_many"] (defScope s_law_take) := ⟨rfl, rfl, rfl, by decide +kernel, rfl, by decide +kernel, by decide +kernel⟩
section
variable {P : Program} {w : World} {K : PySem.W.Frag} {mg : Str → Option Value} {base : Heap}
theorem c_take (F : At K mg "_law_take" s_law_take) (B : Bl mg) : Cal P w K mg base 1 "_law_take" spTake := by
  refine cal_of F sc_law_take (fun vs H Q E h => ?_) (fun _ _ _ _ _ _ us hl => match us, hl with | [_, _], _ => rfl) (fun f cdv A outer s H vs Q E hr h => ?_)
  · obtain ⟨b, m, n, rfl, _⟩ := h
    rfl
  · obtain ⟨b, m, n, rfl, ⟨l, hb, x, y, z, rfl, hy0, hy1, hz0, hz1⟩, hn, hm0, hm1, k⟩ := h
    refine ⟨_, (pss_cons (ps_if (pt_cmpR op_gtA (pe_ix ix_seq (pv 0) pe_int (fun _ _ => rfl)) pe_int (nomark _))
   (pss_cons (ps_set (i := 2) sc_law_take.nd rfl (Or.inl rfl) (pe_op op_mod (pe_callTy call_intA rfl B.int (by decide +kernel) (pa_cons (pe_ix ix_seq (pv 0) pe_int (fun _ _ => rfl)) pa_nil)) (pv 1)))
  (pss_cons (ps_asg (pe_op op_fdivW (pe_ix ix_seq (pv 0) pe_int (fun _ _ => rfl)) (pv 1)) (pg_sub (pv 0) pe_int set_list))
  (pss_one (ps_ret (pv 2)))))
   pss_nil)
  (pss_cons (ps_asg (pe_op op_addA (pe_ix ix_seq (pv 0) pe_int (fun _ _ => rfl)) pe_int) (pg_sub (pv 0) pe_int set_list))
  (pss_cons (ps_set (i := 3) sc_law_take.nd rfl (Or.inl rfl) (pe_op op_mod (pe_callTy call_intA rfl B.int (by decide +kernel) (pa_cons (pe_op op_mulA (pe_op op_addA (pe_ix ix_seq (pv 0) pe_int (fun _ _ => rfl)) (pe_op op_mulA pe_int (pe_ix ix_seq (pv 0) pe_int (fun _ _ => rfl)))) (pe_op op_addA (pe_ix ix_seq (pv 0) pe_int (fun _ _ => rfl)) pe_int)) pa_nil)) pe_int))
  (pss_one (ps_ret (pe_op op_mod (pe_callTy call_intA rfl B.int (by decide +kernel) (pa_cons (pe_op op_fdivW (pe_op op_mod (pe_callTy call_intA rfl B.int (by decide +kernel) (pa_cons (pe_op op_pow (pe_op op_addA (pv 3) (pe_op op_mulA pe_int (pe_ix ix_seq (pv 0) pe_int (fun _ _ => rfl)))) pe_int) pa_nil)) pe_int) pe_int) pa_nil)) (pv 1))))))), ?_⟩
    walk_at "rx"
    refine iteD (fun hx => ?_) (fun hx => ?_)
    · walk_at "rx"
      refine r_I (wide_div (b := 200) hm0 (by omega) (by decide) (by decide)) ?_
      walk_at "rx"
      exact k _ _ (Int.emod_nonneg _ (by omega)) (Int.emod_lt_of_pos _ hm0) ⟨by rw [hid_bag]; exact Evl.Ex.refl _, _, upd_same, _, y, z, rfl, hy0, hy1, hz0, by omega⟩
    · walk_at "rx"
      have h2 : 0 ≤ (y + 40009 * (z + 1)) * (y + 7919) % 2147483647 := Int.emod_nonneg _ (by decide)
      have h3 : (y + 40009 * (z + 1)) * (y + 7919) % 2147483647 < 2147483647 := Int.emod_lt_of_pos _ (by decide)
      refine r_I (C := CPow) ⟨by decide, by decide, ?_⟩ ?_
      · revert h2 h3
        generalize (y + 40009 * (z + 1)) * (y + 7919) % 2147483647 = q
        intro h2 h3
        omega
      walk_at "rx"
      exact k _ _ (Int.emod_nonneg _ (by omega)) (Int.emod_lt_of_pos _ hm0) ⟨by rw [hid_bag]; exact Evl.Ex.refl _, _, upd_same, x, y, z + 1, rfl, hy0, hy1, by omega, by omega⟩

/-! one of a list, a tuple, a text -/
def spOf (K : PySem.W.Frag) : Sp := fun vs H Q _ => ∃ (b : Addr) (v : V) (n : Nat), vs = [.ref b, v] ∧ Bag b n H ∧ n < 1000000000000 ∧
  ((∃ (a : Addr) (xs : List V), v = .ref a ∧ SqA K (hid b H) a xs ∧ 0 < xs.length ∧ xs.length ≤ 100000 ∧ ∀ y ∈ xs, ∀ H', Drw b (n + 1) H H' → Q y H') ∨
   (∃ z : Str, v = .str z ∧ 0 < z.length ∧ z.length ≤ 100000 ∧ ∀ c ∈ z.cps.toList, ∀ H', Drw b (n + 1) H H' → Q (.str ⟨#[c]⟩) H'))
abbrev s_law_of : Stmt := top 5
abbrev N_law_of : List Str := ["_law_bag_here", "_law_some"]
theorem sc_law_of : FnScope N_law_of ["_law_bag_here", "_law_some"] (defScope s_law_of) := ⟨rfl, rfl, rfl, by decide +kernel, rfl, by decide +kernel, by decide +kernel⟩
theorem c_of (F : At K mg "_law_of" s_law_of) (B : Bl mg) (c_law_take : Cal P w K mg base 1 "_law_take" spTake) : Cal P w K mg base 2 "_law_of" (spOf K) := by
  refine cal_of F sc_law_of (fun vs H Q E h => ?_) (fun _ _ _ _ _ _ us hl => match us, hl with | [_, _], _ => rfl) (fun f cdv A outer s H vs Q E hr h => ?_)
  · obtain ⟨b, v, n, rfl, _⟩ := h
    rfl
  · obtain ⟨b, v, n, rfl, hb, hn, h⟩ := h
    refine ⟨_, (pss_one (ps_ret (pe_ix ix_seq (pv 1) (pe_cA c_law_take hr (by decide) rfl (pa_cons (pv 0) (pa_cons (pe_callB call_lenA rfl B.len (by decide +kernel) (pa_cons (pv 1) pa_nil)) pa_nil))) (fun _ _ => rfl)))), ?_⟩
    walk_at "rd"
    rcases h with ⟨a, xs, rfl, hs, h0, h1, k⟩ | ⟨z, rfl, h0, h1, k⟩
    · have hl : LenV K (.ref a) H xs.length := by
        rcases hs with hs | hs
        · exact .inl ⟨_, Evl.ex_l hid_ex hs, rfl⟩
        · exact .inr ⟨_, Evl.ex_t hid_ex hs, rfl⟩
      refine ⟨_, _, rfl, hl, ?_⟩
      walk_at "rd"
      refine ⟨b, _, n, rfl, hb, hn, by omega, by omega, fun d H' hd0 hd1 hd => ?_⟩
      obtain ⟨j, rfl⟩ := Int.eq_ofNat_of_zero_le hd0
      have hj : j < xs.length := by omega
      have hx : xs[j]? = some xs[j] := List.getElem?_eq_getElem hj
      rcases hs with hs | hs
      · refine r_ixL (Evl.ex_l hid_ex (hd.l hs)) (atI_nat hx) ?_
        exact k _ (List.getElem_mem hj) _ hd
      · refine r_ixT (Evl.ex_t hid_ex (hd.t hs)) (atI_nat hx) ?_
        exact k _ (List.getElem_mem hj) _ hd
    · refine r_lenS (by rw [sizeLine_eq]; omega) ?_
      walk_at "rd"
      refine ⟨b, _, n, rfl, hb, hn, by omega, by omega, fun d H' hd0 hd1 hd => ?_⟩
      obtain ⟨j, rfl⟩ := Int.eq_ofNat_of_zero_le hd0
      have hj : j < z.cps.toList.length := by
        have e : z.cps.toList.length = z.length := by simp [Str.length]
        omega
      refine r_ixS (by rw [sizeLine_eq]; omega) (atI_nat (List.getElem?_eq_getElem hj)) ?_
      exact k _ (List.getElem_mem hj) _ hd

/-! a word -/
def spWord : Sp := fun vs H Q _ => ∃ (b : Addr) (m n : Nat), vs = [.ref b, .int (m : Int)] ∧ Bag b n H ∧ n + m + 2 < 1000000000000 ∧ m ≤ 1000 ∧
  ∀ (z : Str) (H' : Hp), Word m z → Drw b (n + m + 2) H H' → Q (.str z) H'
abbrev s_law_word : Stmt := top 7
abbrev N_law_word : List Str := ["_law_bag_here", "_law_most", "_law_turn"]
theorem sc_law_word : FnScope N_law_word ["_law_bag_here", "_law_most"] (defScope s_law_word) := ⟨rfl, rfl, rfl, by decide +kernel, rfl, by decide +kernel, by decide +kernel⟩
theorem small_eq : ("abcdefghijklmnopqrstuvwxyz" : Str).cps.toList = (List.range 26).map (· + 97) := by decide +kernel
theorem small_ok {c : Nat} (h : c ∈ ("abcdefghijklmnopqrstuvwxyz" : Str).cps.toList) : 97 ≤ c ∧ c ≤ 122 := by
  rw [small_eq] at h
  obtain ⟨x, hx, rfl⟩ := List.mem_map.mp h
  have := List.mem_range.mp hx
  omega
theorem tl_join0 : ∀ cs : List Nat, (Txt.join ("" : Str) (cs.map fun c => (⟨#[c]⟩ : Str))).cps.toList = cs := by
  intro cs
  have h : ∀ l : List (List Nat), TL.joinL [] l = l.flatten := by
    intro l
    induction l with
    | nil => rfl
    | cons p r ih =>
      cases r with
      | nil => simp [TL.joinL]
      | cons q r => rw [TL.joinL, ih]; simp
  have e := TL.tl_join ("" : Str) (cs.map fun c => (⟨#[c]⟩ : Str))
  rw [TL.join_eq]
  refine e.trans ?_
  have e2 : TL.tl ("" : Str) = [] := by decide +kernel
  rw [e2, h, List.map_map]
  clear e
  induction cs with
  | nil => rfl
  | cons c r ih =>
    rw [List.map_cons, List.flatten_cons, ih]
    rfl
theorem c_word (F : At K mg "_law_word" s_law_word) (B : Bl mg) (c_law_take : Cal P w K mg base 1 "_law_take" spTake) (c_law_of : Cal P w K mg base 2 "_law_of" (spOf K)) : Cal P w K mg base 3 "_law_word" spWord := by
  refine cal_of F sc_law_word (fun vs H Q E h => ?_) (fun _ _ _ _ _ _ us hl => match us, hl with | [_, _], _ => rfl) (fun f cdv A outer s H vs Q E hr h => ?_)
  · obtain ⟨b, m, n, rfl, _⟩ := h
    rfl
  · obtain ⟨b, m, n, rfl, hb, hn, hm, k⟩ := h
    refine ⟨_, (pss_one (ps_ret (pe_join pe_str (pe_lc (own := [("_law_turn", 2)]) rfl sc_law_word.nd (pi_range1 rfl B.range (pa_cons (pe_cA c_law_take hr (by decide) rfl (pa_cons (pv 0) (pa_cons (pe_op op_addA (pv 1) pe_int) pa_nil))) pa_nil)) (blkOk_by (N := N_law_word) (sc := defScope s_law_word) (by decide +kernel)) (fun _ _ _ _ _ => (pg_name (i := 2) sc_law_word.nd rfl (Or.inl rfl))) (fun _ _ _ _ _ => pts_nil) (fun _ _ _ _ _ => (pe_cA c_law_of hr (by decide) rfl (pa_cons (pv 0) (pa_cons pe_str pa_nil)))))))), ?_⟩
    walk_at "rd"
    refine ⟨⟨_, rfl⟩, ?_⟩
    walk_at "rd"
    refine ⟨b, _, n, rfl, hb, by omega, by omega, by omega, fun d H1 hd0 hd1 hd => ?_⟩
    obtain ⟨j, rfl⟩ := Int.eq_ofNat_of_zero_le hd0
    refine ⟨_, rfl, by omega, by omega, fun D hD => ?_⟩
    have nDb : D ≠ b := by
      obtain ⟨l, h1, _⟩ := hd.bag
      exact (ne_of_none h1 hD).symm
    refine lc_range (lo := 0) (n := (j : Int).toNat) (fun i H' => ∃ cs : List Nat, cs.length = i ∧ (∀ c ∈ cs, 97 ≤ c ∧ c ≤ 122) ∧ H' D = some (.lst (cs.map fun c => V.str ⟨#[c]⟩)) ∧ Drw b (n + 1 + i) H1 H') ?_ ?_ ?_
    · exact ⟨[], rfl, fun _ h => by (cases h), upd_same, (hd.bag.new hD).1⟩
    · rintro i H' hi ⟨cs, hl, hc, h1, h2⟩
      walk_at "rd"
      refine ⟨rfl, ?_⟩
      walk_at "rd"
      refine ⟨b, _, n + 1 + i, rfl, h2.bag, by omega, .inr ⟨_, rfl, by decide +kernel, by decide +kernel, fun c hcm H2 hd2 => ?_⟩⟩
      have hD2 : H2 D = some (.lst (cs.map fun c => V.str ⟨#[c]⟩)) := hid_get (hd2.ex _ _ (hid_of h1 nDb))
      refine ⟨_, hD2, by rw [sizeLine_eq, List.length_map]; omega, cs ++ [c], by simp [hl], ?_, ?_, ?_⟩
      · intro x hx
        rcases List.mem_append.mp hx with hx | hx
        · exact hc x hx
        · rw [List.mem_singleton.mp hx]
          exact small_ok hcm
      · rw [upd_same, List.map_append]; rfl
      · exact (Drw.put (h2.trans hd2) (hid_none hD) nDb).mono (by omega)
    · rintro H' ⟨cs, hl, hc, h1, h2⟩
      have e1 : cs.map (fun c => V.str ⟨#[c]⟩) = (cs.map fun c => (⟨#[c]⟩ : Str)).map V.str := by rw [List.map_map]; rfl
      refine ⟨_, _, _, rfl, rfl, .inl (SqL.of (by rw [← e1]; exact h1)), ?_, ?_⟩
      · rw [List.map_map, List.length_map]
        have e2 : (cs.map ((fun (x : Str) => x.length) ∘ fun c => (⟨#[c]⟩ : Str))).sum = cs.length := by
          have : ∀ l : List Nat, (l.map ((fun (x : Str) => x.length) ∘ fun c => (⟨#[c]⟩ : Str))).sum = l.length := by
            intro l
            induction l with
            | nil => rfl
            | cons a r ih => rw [List.map_cons, List.sum_cons, ih, List.length_cons]; show 1 + r.length = _; omega
          exact this cs
        rw [e2]
        have e3 : ("" : Str).length = 0 := by decide +kernel
        rw [e3]
        omega
      · refine k _ _ ⟨?_, ?_⟩ ((hd.trans h2).mono (by omega))
        · have := congrArg List.length (tl_join0 cs)
          rw [show (Txt.join ("" : Str) (cs.map fun c => (⟨#[c]⟩ : Str))).length = (Txt.join ("" : Str) (cs.map fun c => (⟨#[c]⟩ : Str))).cps.toList.length from by simp [Str.length], this]
          omega
        · rw [tl_join0]
          exact hc

/-! a class name -/
def spClass : Sp := fun vs H Q _ => ∃ (b : Addr) (n : Nat), vs = [.ref b] ∧ Bag b n H ∧ n + 20 < 1000000000000 ∧
  ∀ (z : Str) (H' : Hp), ClsN z → Drw b (n + 20) H H' → Q (.str z) H'
abbrev s_law_class : Stmt := top 8
abbrev N_law_class : List Str := ["_law_bag_here", "_law_letters", "_law_found", "_law_turn"]
theorem sc_law_class : FnScope N_law_class ["_law_bag_here"] (defScope s_law_class) := ⟨rfl, rfl, rfl, by decide +kernel, rfl, by decide +kernel, by decide +kernel⟩
theorem letters_cap : (cutS ("abcdefghijklmnopqrstuvwxyzABCDEFGHIJKLMNOPQRSTUVWXYZ" : Str) (some 26) none).cps.toList = (List.range 26).map (· + 65) := by decide +kernel
theorem letters_eq : ("abcdefghijklmnopqrstuvwxyzABCDEFGHIJKLMNOPQRSTUVWXYZ" : Str).cps.toList = (List.range 26).map (· + 97) ++ (List.range 26).map (· + 65) := by decide +kernel
theorem letters_ok {c : Nat} (h : c ∈ ("abcdefghijklmnopqrstuvwxyzABCDEFGHIJKLMNOPQRSTUVWXYZ" : Str).cps.toList) : Let c := by
  rw [letters_eq] at h
  rcases List.mem_append.mp h with h | h
  · obtain ⟨x, hx, rfl⟩ := List.mem_map.mp h
    have := List.mem_range.mp hx
    exact .inl ⟨by omega, by omega⟩
  · obtain ⟨x, hx, rfl⟩ := List.mem_map.mp h
    have := List.mem_range.mp hx
    exact .inr ⟨by omega, by omega⟩
theorem tl_snoc (z : Str) (d : Nat) : (z ++ (⟨#[d]⟩ : Str)).cps.toList = z.cps.toList ++ [d] := TL.tl_append z ⟨#[d]⟩
theorem tl_len (z : Str) : z.cps.toList.length = z.length := by simp [Str.length]
theorem c_class (F : At K mg "_law_class" s_law_class) (B : Bl mg) (c_law_take : Cal P w K mg base 1 "_law_take" spTake) (c_law_of : Cal P w K mg base 2 "_law_of" (spOf K)) : Cal P w K mg base 3 "_law_class" spClass := by
  refine cal_of F sc_law_class (fun vs H Q E h => ?_) (fun _ _ _ _ _ _ us hl => match us, hl with | [_], _ => rfl) (fun f cdv A outer s H vs Q E hr h => ?_)
  · obtain ⟨b, n, rfl, _⟩ := h
    rfl
  · obtain ⟨b, n, rfl, hb, hn, k⟩ := h
    refine ⟨_, (pss_cons (ps_set (i := 1) sc_law_class.nd rfl (Or.inl rfl) pe_str)
  (pss_cons (ps_set (i := 2) sc_law_class.nd rfl (Or.inl rfl) (pe_cA c_law_of hr (by decide) rfl (pa_cons (pv 0) (pa_cons (pe_slice sl_A (pv 1) (po_some pe_int) po_none) pa_nil))))
  (pss_cons (ps_for PassesOwn.never rfl (pi_range1 rfl B.range (pa_cons (pe_cA c_law_take hr (by decide) rfl (pa_cons (pv 0) (pa_cons pe_int pa_nil))) pa_nil)) (pg_name (i := 3) sc_law_class.nd rfl (Or.inl rfl))
   (pss_one (ps_set (i := 2) sc_law_class.nd rfl (Or.inl rfl) (pe_op op_addA (pv 2) (pe_cA c_law_of hr (by decide) rfl (pa_cons (pv 0) (pa_cons (pv 1) pa_nil)))))))
  (pss_one (ps_ret (pv 2)))))), ?_⟩
    walk_at "rd"
    refine r_slS (by decide +kernel) ?_
    walk_at "rd"
    refine ⟨b, _, n, rfl, hb, by omega, .inr ⟨_, rfl, by decide +kernel, by decide +kernel, fun c0 hc0 H1 hd1 => ?_⟩⟩
    rw [letters_cap] at hc0
    have hc0 : 65 ≤ c0 ∧ c0 ≤ 90 := by
      obtain ⟨x, hx, rfl⟩ := List.mem_map.mp hc0
      have := List.mem_range.mp hx
      omega
    walk_at "rd"
    refine ⟨b, _, n + 1, rfl, hd1.bag, by omega, by decide, by decide, fun d H2 hd0 hdl hd2 => ?_⟩
    refine ⟨_, rfl, by omega, by omega, for_range (lo := 0) (n := d.toNat) (fun i σ H' => ∃ (z : Str) (r : List Nat) (u : Option V), σ = [some (.ref b), some (.str "abcdefghijklmnopqrstuvwxyzABCDEFGHIJKLMNOPQRSTUVWXYZ"), some (.str z), u] ∧ z.cps.toList = c0 :: r ∧ r.length = i ∧ (∀ x ∈ r, Let x) ∧ Drw b (n + 2 + i) H H') ?_ ?_ ?_⟩
    · exact ⟨⟨#[c0]⟩, [], none, rfl, rfl, rfl, fun _ h => by (cases h), hd1.trans hd2⟩
    · rintro i σ H' hi ⟨z, r, u, rfl, hz, hr2, hlet, hd⟩
      walk_at "rd"
      refine ⟨b, _, n + 2 + i, rfl, hd.bag, by omega, .inr ⟨_, rfl, by decide +kernel, by decide +kernel, fun c hc H3 hd3 => ?_⟩⟩
      have hzl : z.length = i + 1 := by rw [← tl_len, hz, List.length_cons, hr2]
      refine r_addS (by rw [sizeLine_eq, hzl]; show i + 1 + 1 ≤ _; omega) ?_
      refine ⟨_, r ++ [c], _, rfl, ?_, by simp [hr2], ?_, (hd.trans hd3).mono (by omega)⟩
      · rw [tl_snoc, hz]; rfl
      · intro x hx
        rcases List.mem_append.mp hx with hx | hx
        · exact hlet x hx
        · rw [List.mem_singleton.mp hx]
          exact letters_ok hc
    · rintro σ H' ⟨z, r, u, rfl, hz, hr2, hlet, hd⟩
      walk_at "rd"
      exact k _ _ ⟨c0, r, hz, hc0, hlet, by omega⟩ (hd.mono (by omega))

/-! a number -/
def spNumber : Sp := fun vs H Q _ => ∃ (b a : Addr) (n : Nat) (ns : List Int), vs = [.ref b, .ref a] ∧ Bag b n H ∧ n + 10 < 1000000000000 ∧ hid b H a = some (.lst (ns.map V.int)) ∧ ns.length ≤ 1000 ∧
  ∀ (r : Int) (H' : Hp), r.natAbs < 10 ^ 30 → Drw b (n + 10) H H' → Q (.int r) H'
abbrev s_law_number : Stmt := top 6
abbrev N_law_number : List Str := ["_law_bag_here", "_law_near", "_law_way", "_law_top"]
theorem sc_law_number : FnScope N_law_number ["_law_bag_here", "_law_near"] (defScope s_law_number) := ⟨rfl, rfl, rfl, by decide +kernel, rfl, by decide +kernel, by decide +kernel⟩
theorem c_number (F : At K mg "_law_number" s_law_number) (B : Bl mg) (c_law_take : Cal P w K mg base 1 "_law_take" spTake) (c_law_of : Cal P w K mg base 2 "_law_of" (spOf K)) : Cal P w K mg base 3 "_law_number" spNumber := by
  refine cal_of F sc_law_number (fun vs H Q E h => ?_) (fun _ _ _ _ _ _ us hl => match us, hl with | [_, _], _ => rfl) (fun f cdv A outer s H vs Q E hr h => ?_)
  · obtain ⟨b, a, n, ns, rfl, _⟩ := h
    rfl
  · obtain ⟨b, a, n, ns, rfl, hb, hn, hna, hns, k⟩ := h
    refine ⟨_, (pss_cons (ps_par (i := 2) (j := 3) (by rfl) sc_law_number.nd rfl rfl (by decide) rfl rfl (pa_cons (pe_cA c_law_take hr (by decide) rfl (pa_cons (pv 0) (pa_cons pe_int pa_nil))) (pa_cons (pe_op op_sub (pe_op op_pow pe_int pe_int) pe_int) pa_nil)) (by rfl))
  (pss_cons (ps_if (pt_cmpR op_gtA (pv 2) pe_int (nomark _))
   (pss_one (ps_ret (pe_op op_sub (pe_cA c_law_take hr (by decide) rfl (pa_cons (pv 0) (pa_cons pe_int pa_nil))) pe_int)))
   pss_nil)
  (pss_cons (ps_if (pt_cmpR (op_eqA hr.units) (pv 2) pe_int (nomark _))
   (pss_one (ps_ret (pe_op op_mulA (pe_op op_sub (pv 3) (pe_cA c_law_take hr (by decide) rfl (pa_cons (pv 0) (pa_cons (pe_op op_pow pe_int pe_int) pa_nil)))) (pe_op op_sub pe_int (pe_op op_mulA pe_int (pe_cA c_law_take hr (by decide) rfl (pa_cons (pv 0) (pa_cons pe_int pa_nil))))))))
   pss_nil)
  (pss_one (ps_ret (pe_callB (call_max2A rfl) rfl B.max (by decide +kernel) (pa_cons (pe_un un_neg (pv 3)) (pa_cons (pe_callB (call_min2A rfl) rfl B.min (by decide +kernel) (pa_cons (pv 3) (pa_cons (pe_op op_sub (pe_op op_addA (pe_cA c_law_of hr (by decide) rfl (pa_cons (pv 0) (pa_cons (pe_op op_addA (pv 1) (pe_lst (pa_cons pe_int pa_nil))) pa_nil))) (pe_cA c_law_take hr (by decide) rfl (pa_cons (pv 0) (pa_cons pe_int pa_nil)))) pe_int) pa_nil))) pa_nil)))))))), ?_⟩
    walk_at "rd"
    refine ⟨b, _, n, rfl, hb, by omega, by decide, by decide, fun d H1 hd0 hdl hd1 => ?_⟩
    walk_at "rx"
    refine iteD (fun h1 => ?_) (fun h1 => ?_)
    · walk_at "rd"
      refine ⟨b, _, n + 1, rfl, hd1.bag, by omega, by decide, by decide, fun d2 H2 hd20 hd2l hd2 => ?_⟩
      walk_at "rd"
      refine k _ _ ?_ ((hd1.trans hd2).mono (by omega))
      omega
    · walk_at "rd"
      refine iteD (fun h2 => ?_) (fun h2 => ?_)
      · walk_at "rx"
        refine ⟨b, _, n + 1, rfl, hd1.bag, by omega, by decide, by decide, fun d2 H2 hd20 hd2l hd2 => ?_⟩
        walk_at "rx"
        refine ⟨b, _, n + 2, rfl, hd2.bag, by omega, by decide, by decide, fun d3 H3 hd30 hd3l hd3 => ?_⟩
        walk_at "rx"
        have e10 : (10 : Int) ^ (30 : Int).toNat = 1000000000000000000000000000000 := by decide
        rw [e10] at hd2l
        refine k _ _ ?_ (((hd1.trans hd2).trans hd3).mono (by omega))
        rw [e10]
        obtain rfl | rfl : d3 = 0 ∨ d3 = 1 := by omega
        · omega
        · omega
      · walk_at "rd"
        have e10 : (10 : Int) ^ (30 : Int).toNat = 1000000000000000000000000000000 := by decide
        refine ⟨Nat.le_of_lt (by decide), fun p hp => ?_⟩
        have hd2 := hd1.bag.new (o := .lst [.int 0]) hp
        have hna2 := hd2.1.ex _ _ (hd1.ex _ _ hna)
        refine r_addL (hid_get hna2) (hid_get hd2.2) (by rw [sizeLine_eq, List.length_map]; show _ + 1 ≤ _; omega) (fun l hl => ?_)
        have hd3 := hd2.1.bag.new (o := .lst (ns.map V.int ++ [.int 0])) hl
        walk_at "rd"
        refine ⟨b, _, n + 1, rfl, hd3.1.bag, by omega, .inl ⟨l, _, rfl, .inl (SqL.of hd3.2), by simp, by rw [List.length_append, List.length_map]; show _ + 1 ≤ _; omega, fun y hy H2 hd4 => ?_⟩⟩
        obtain ⟨yi, rfl⟩ : ∃ yi, y = V.int yi := by
          rcases List.mem_append.mp hy with hy | hy
          · obtain ⟨yi, _, rfl⟩ := List.mem_map.mp hy
            exact ⟨yi, rfl⟩
          · exact ⟨0, List.mem_singleton.mp hy⟩
        walk_at "rd"
        refine ⟨b, _, n + 2, rfl, hd4.bag, by omega, by decide, by decide, fun d5 H5 hd50 hd5l hd5 => ?_⟩
        walk_at "rd"
        refine k _ _ ?_ (((((hd1.trans hd2.1).trans hd3.1).trans hd4).trans hd5).mono (by omega))
        rw [e10]
        split <;> split <;> omega

/-! a bag -/
def spBag (K : PySem.W.Frag) : Sp := fun vs H Q _ => ∃ (a : Addr) (ns : List Int) (i : Nat), vs = [.ref a, .int (i : Int)] ∧ SqL K H a (ns.map V.int) ∧ i < 64 ∧ ns.length ≤ 63 ∧
  ∀ (b : Addr) (l : List V), H b = none → BagL 0 l → Q (.ref b) (upd H b (.lst l))
abbrev s_law_bag : Stmt := top 3
abbrev N_law_bag : List Str := ["_law_script", "_law_at", "_law_cell"]
theorem sc_law_bag : FnScope N_law_bag ["_law_script", "_law_at"] (defScope s_law_bag) := ⟨rfl, rfl, rfl, by decide +kernel, rfl, by decide +kernel, by decide +kernel⟩
theorem c_bag (F : At K mg "_law_bag" s_law_bag) (B : Bl mg) : Cal P w K mg base 1 "_law_bag" (spBag K) := by
  refine cal_of F sc_law_bag (fun vs H Q E h => ?_) (fun _ _ _ _ _ _ us hl => match us, hl with | [_, _], _ => rfl) (fun f cdv A outer s H vs Q E hr h => ?_)
  · obtain ⟨a, ns, i, rfl, _⟩ := h
    rfl
  · obtain ⟨a, ns, i, rfl, hs, hi, hns, k⟩ := h
    refine ⟨_, (pss_cons (ps_set (i := 2) sc_law_bag.nd rfl (Or.inl rfl) (pe_ifExp (pt_cmpR op_ltA (pv 1) (pe_callB call_lenA rfl B.len (by decide +kernel) (pa_cons (pv 0) pa_nil)) (nomark _)) (pe_ix ix_seq (pv 0) (pv 1) (fun _ _ => rfl)) pe_int))
  (pss_one (ps_ret (pe_lst (pa_cons (pe_ifExp (pt_cmpR op_geA (pe_callB call_absA rfl B.abs (by decide +kernel) (pa_cons (pv 2) pa_nil)) (pe_op op_pow pe_int pe_int) (nomark _)) (pe_callB call_absA rfl B.abs (by decide +kernel) (pa_cons (pv 2) pa_nil)) pe_int) (pa_cons (pe_op op_addA (pe_op op_mod (pe_callTy call_intA rfl B.int (by decide +kernel) (pa_cons (pv 2) pa_nil)) pe_int) (pe_op op_mulA pe_int (pv 1))) (pa_cons pe_int pa_nil))))))), ?_⟩
    walk_at "rd"
    refine r_lenL hs ?_
    walk_at "rd"
    have key : ∀ c : Int, tRet (tLst (tCons (tIf (tTest (tOp rGeA (tCB rAbsA (tCons (tVar 2) tNil)) (tOp (rI CPow fun i j => .int (i ^ j.toNat)) (tC (.int 10)) (tC (.int 18))))) (tCB rAbsA (tCons (tVar 2) tNil)) (tC (.int 0)))
        (tCons (tOp (rAddA K) (tOp (rI (fun _ j => 0 < j) fun i j => .int (i % j)) (tCB rIntA (tCons (tVar 2) tNil)) (tC (.int 998244353))) (tOp rMulA (tC (.int 3000017)) (tVar 1))) (tCons (tC (.int 0)) tNil)))) { nx := fun _ H' => Q .non H', rt := Q } [some (.ref a), some (.int (i : Int)), some (.int c)] H := by
      intro c
      have hm1 : 0 ≤ c % 998244353 := Int.emod_nonneg _ (by decide)
      have hm2 : c % 998244353 < 998244353 := Int.emod_lt_of_pos _ (by decide)
      walk_at "rx"
      refine iteD (fun h1 => ?_) (fun h1 => ?_)
      · walk_at "rx"
        refine ⟨(by show 3 ≤ sizeLine; decide), fun p hp => k p _ hp ⟨_, _, _, rfl, by omega, by omega, by omega, by omega⟩⟩
      · walk_at "rx"
        refine ⟨(by show 3 ≤ sizeLine; decide), fun p hp => k p _ hp ⟨_, _, _, rfl, by omega, by omega, by omega, by omega⟩⟩
    refine iteD (fun h1 => ?_) (fun h1 => ?_)
    · have hi2 : i < ns.length := by
        rw [List.length_map] at h1
        omega
      walk_at "rd"
      refine r_ixL hs (atI_nat (by rw [List.getElem?_map, List.getElem?_eq_getElem hi2]; rfl)) ?_
      exact key _
    · refine r_c ?_
      exact key 0
end

/-! ### the program -/
def spWeight (K : PySem.W.Frag) : Sp := fun vs H Q _ => ∃ v, vs = [v] ∧ ((v = .non ∧ Q (.int 0) H) ∨ (∃ i, v = .int i ∧ Q (.int 1) H) ∨ (∃ z, v = .str z ∧ Q (.int 1) H) ∨ (∃ a xs, v = .ref a ∧ SqT K H a xs ∧ Q (.int 1) H) ∨
  ∃ a xs, v = .ref a ∧ SqL K H a xs ∧ Q (.int (1 + (xs.length : Int))) H)
abbrev s_weight : Stmt := top 1
abbrev N_weight : List Str := ["answer"]
theorem sc_weight : FnScope N_weight ["answer"] (defScope s_weight) := ⟨rfl, rfl, rfl, by decide +kernel, rfl, by decide +kernel, by decide +kernel⟩
section
variable {P : Program} {w : World} {K : PySem.W.Frag} {mg : Str → Option Value} {base : Heap}
theorem c_weight (F : At K mg "weight" s_weight) (B : Bl mg) : Cal P w K mg base 1 "weight" (spWeight K) := by
  refine cal_of F sc_weight (fun vs H Q E h => ?_) (fun _ _ _ _ _ _ us hl => match us, hl with | [_], _ => rfl) (fun f cdv A outer s H vs Q E hr h => ?_)
  · obtain ⟨v, rfl, _⟩ := h
    rfl
  · obtain ⟨v, rfl, h⟩ := h
    refine ⟨_, (pss_cons (ps_if (pt_cmpR op_isA (pv 0) pe_non (nomark _))
   (pss_one (ps_ret pe_int))
   pss_nil)
  (pss_one (ps_ret (pe_ifExp (pt_val (pe_callB call_isinstanceA rfl B.isinstance (by decide +kernel) (pa_cons (pv 0) (pa_cons (pe_bltn (v := .ty "list") rfl B.list (by decide +kernel) rfl) pa_nil)))) (pe_op op_addA pe_int (pe_callB call_lenA rfl B.len (by decide +kernel) (pa_cons (pv 0) pa_nil))) pe_int)))), ?_⟩
    rcases h with ⟨rfl, k⟩ | ⟨i, rfl, k⟩ | ⟨z, rfl, k⟩ | ⟨a, xs, rfl, hs, k⟩ | ⟨a, xs, rfl, hs, k⟩
    · walk_at "rx"
      exact k
    · walk_at "rx"
      exact k
    · walk_at "rx"
      exact k
    · walk_at "rx"
      refine r_isi_tup_list hs ?_
      walk_at "rx"
      exact k
    · walk_at "rx"
      refine r_isi_lst_list hs ?_
      walk_at "rx"
      refine r_lenL hs ?_
      walk_at "rx"
      exact k
def spIsInt : Sp := fun vs H Q _ => ∃ i, vs = [.int i] ∧ Q (.bl true) H
abbrev s_law_is_integer : Stmt := top 9
abbrev N_law_is_integer : List Str := ["_law_thing"]
theorem sc_law_is_integer : FnScope N_law_is_integer ["_law_thing"] (defScope s_law_is_integer) := ⟨rfl, rfl, rfl, by decide +kernel, rfl, by decide +kernel, by decide +kernel⟩
theorem c_is_integer (F : At K mg "_law_is_integer" s_law_is_integer) (B : Bl mg) : Cal P w K mg base 1 "_law_is_integer" spIsInt := by
  refine cal_of F sc_law_is_integer (fun vs H Q E h => ?_) (fun _ _ _ _ _ _ us hl => match us, hl with | [_], _ => rfl) (fun f cdv A outer s H vs Q E hr h => ?_)
  · obtain ⟨v, rfl, _⟩ := h
    rfl
  · obtain ⟨i, rfl, k⟩ := h
    refine ⟨_, (pss_one (ps_ret (pe_and (pe_callB call_isinstanceA rfl B.isinstance (by decide +kernel) (pa_cons (pv 0) (pa_cons (pe_bltn (v := .ty "int") rfl B.int (by decide +kernel) rfl) pa_nil))) (pe_one (pe_not (pe_callB call_isinstanceA rfl B.isinstance (by decide +kernel) (pa_cons (pv 0) (pa_cons (pe_bltn (v := .ty "bool") rfl B.bool (by decide +kernel) rfl) pa_nil)))))))), ?_⟩
    walk_at "rx"
    exact k
end
end WP

set_option Elab.async false
set_option linter.all false
set_option maxRecDepth 100000
set_option maxHeartbeats 4000000
namespace WP
open PySem PySem.Spec PyProof.Rows L2
local macro_rules | `(tactic| walk_at "rd") => `(tactic| repeat (first
  | with_reducible refine r_seq ?_ | with_reducible refine r_var rfl ?_ | with_reducible refine r_c ?_ | with_reducible refine r_op ?_ | with_reducible refine r_cons ?_ | with_reducible refine r_nil ?_
  | with_reducible refine r_cb ?_ | with_reducible refine r_call ?_ | with_reducible refine r_test ?_ | with_reducible refine r_B ?_ | with_reducible refine r_bl ?_ | with_reducible refine r_asg ?_ | with_reducible refine r_asgS ?_
  | with_reducible refine r_ret ?_ | with_reducible refine r_drop ?_ | with_reducible refine r_ifS ?_ | with_reducible refine r_if ?_ | with_reducible refine r_and ?_ | with_reducible refine r_or ?_ | with_reducible refine r_not ?_
  | with_reducible refine r_andV ?_ | with_reducible refine r_orV ?_ | with_reducible refine r_notV ?_ | with_reducible refine r_chain ?_ | with_reducible refine r_sl ?_ | with_reducible refine r_nopart ?_ | with_reducible refine r_part ?_
  | with_reducible refine r_intO ?_ | with_reducible refine r_two ?_ | with_reducible refine r_m1 ?_ | with_reducible refine r_bm ?_ | with_reducible refine r_next ?_ | with_reducible refine r_for ?_ | with_reducible refine r_rng1 ?_ | with_reducible refine r_iList ?_ | with_reducible refine r_lc ?_ | with_reducible refine r_yes ?_ | with_reducible refine r_gN ?_ | with_reducible refine r_par ?_ | with_reducible refine r_un ?_ | with_reducible refine r_brk ?_ | with_reducible refine r_cont ?_
  | with_reducible refine r_I0 ?_ | with_reducible refine r_U ?_ | with_reducible refine r_addI ?_ | with_reducible refine r_abs ?_ | with_reducible refine r_intI ?_ | with_reducible refine r_max2 ?_ | with_reducible refine r_min2 ?_
  | with_reducible refine r_ltI ?_ | with_reducible refine r_leI ?_ | with_reducible refine r_gtI ?_ | with_reducible refine r_geI ?_ | with_reducible refine r_isN_non ?_ | with_reducible refine r_isN_int ?_ | with_reducible refine r_isN_str ?_ | with_reducible refine r_isN_bl ?_ | with_reducible refine r_isN_ref ?_ | with_reducible refine r_isN ?_ | with_reducible refine r_isB ?_ | with_reducible refine r_isnotN_non ?_ | with_reducible refine r_isnotN_int ?_ | with_reducible refine r_isnotN_str ?_ | with_reducible refine r_isnotN_bl ?_ | with_reducible refine r_isnotN_ref ?_ | with_reducible refine r_isnotN ?_ | with_reducible refine r_isnotB ?_
  | with_reducible refine r_inS ?_ | with_reducible refine r_eqS rfl ?_ | with_reducible refine r_neS rfl ?_ | with_reducible refine r_lst ?_ | with_reducible refine r_tup ?_ | with_reducible refine iteT ?_ | with_reducible refine iteF ?_))
local macro_rules | `(tactic| walk_at "isi") => `(tactic| (first
  | with_reducible refine r_isi_non_int ?_
  | with_reducible refine r_isi_non_str ?_
  | with_reducible refine r_isi_non_list ?_
  | with_reducible refine r_isi_non_tuple ?_
  | with_reducible refine r_isi_non_bool ?_
  | with_reducible refine r_isi_bl_int ?_
  | with_reducible refine r_isi_bl_str ?_
  | with_reducible refine r_isi_bl_list ?_
  | with_reducible refine r_isi_bl_tuple ?_
  | with_reducible refine r_isi_bl_bool ?_
  | with_reducible refine r_isi_int_int ?_
  | with_reducible refine r_isi_int_str ?_
  | with_reducible refine r_isi_int_list ?_
  | with_reducible refine r_isi_int_tuple ?_
  | with_reducible refine r_isi_int_bool ?_
  | with_reducible refine r_isi_str_int ?_
  | with_reducible refine r_isi_str_str ?_
  | with_reducible refine r_isi_str_list ?_
  | with_reducible refine r_isi_str_tuple ?_
  | with_reducible refine r_isi_str_bool ?_
  | with_reducible refine r_isi_lst_int (SqL.of (by assumption)) ?_
  | with_reducible refine r_isi_lst_str (SqL.of (by assumption)) ?_
  | with_reducible refine r_isi_lst_list (SqL.of (by assumption)) ?_
  | with_reducible refine r_isi_lst_tuple (SqL.of (by assumption)) ?_
  | with_reducible refine r_isi_lst_bool (SqL.of (by assumption)) ?_
  | with_reducible refine r_isi_tup_int (SqT.of (by assumption)) ?_
  | with_reducible refine r_isi_tup_str (SqT.of (by assumption)) ?_
  | with_reducible refine r_isi_tup_list (SqT.of (by assumption)) ?_
  | with_reducible refine r_isi_tup_tuple (SqT.of (by assumption)) ?_
  | with_reducible refine r_isi_tup_bool (SqT.of (by assumption)) ?_))
local macro_rules | `(tactic| walk_at "rs") => `(tactic| (first
  | walk_at "isi"
  | refine r_ixL (SqL.of (by assumption)) rfl ?_ | refine r_ixL (SqL.of upd_same) rfl ?_
  | refine r_I (C := fun _ j => 0 < j) (by first | decide | assumption | omega) ?_
  | refine r_mulI (.inl ⟨by decide, by decide⟩) ?_ | refine r_mulI (.inr ⟨by decide, by decide⟩) ?_ | refine r_mulI (.inr ⟨by omega, by omega⟩) ?_ | refine r_mulI (.inl ⟨by omega, by omega⟩) ?_
  | refine r_I (wide_div (b := 64) (by decide) (by decide) (by decide) (by decide)) ?_
  | refine r_I (C := CPow) ⟨by decide, by decide, by decide⟩ ?_
  | refine r_setL (by assumption) rfl ?_ | refine r_setL upd_same rfl ?_))
local macro_rules | `(tactic| walk_at "rx") => `(tactic| (walk_at "rd"; (repeat (walk_at "rs"; walk_at "rd"))))

section
variable {P : Program} {w : World} {K : PySem.W.Frag} {mg : Str → Option Value} {base : Heap}
def spLaw (K : PySem.W.Frag) : Sp := fun vs H Q _ => ∃ (a : Addr) (ns : List Int), vs = [.ref a] ∧ SqL K H a (ns.map V.int) ∧ ns.length ≤ 63 ∧ ∀ H', Q (.bl true) H'
abbrev s_law : Stmt := top 10
abbrev N_law : List Str := ["_law_script", "_law_at", "_law_bag_here", "_law_many", "_law_some", "_law_turn", "_law_copy", "_law_item", "_law_raised", "_law_answer"]
theorem sc_law : FnScope N_law ["_law_script"] (defScope s_law) := ⟨rfl, rfl, rfl, by decide +kernel, rfl, by decide +kernel, by decide +kernel⟩
def Itm : V → Prop
  | .non => True
  | .int _ => True
  | .str z => PyData.strOk z = true
  | _ => False
theorem Itm.sc {v : V} (h : Itm v) : Sc v := by
  cases v <;> first | exact h | exact trivial | exact h.elim
theorem c_law {f : Addr} {fd : FuncData} (F : FunD K "law" "law" (defArgs s_law) (defBody s_law) (defScope s_law) [] [] f fd) (B : Bl mg) (c_law_take : Cal P w K mg base 1 "_law_take" spTake) (c_law_of : Cal P w K mg base 2 "_law_of" (spOf K))
    (c_law_word : Cal P w K mg base 3 "_law_word" spWord) (c_law_class : Cal P w K mg base 3 "_law_class" spClass) (c_law_number : Cal P w K mg base 3 "_law_number" spNumber) (c_law_bag : Cal P w K mg base 1 "_law_bag" (spBag K))
    (c_weight : Cal P w K mg base 1 "weight" (spWeight K)) (c_law_is_integer : Cal P w K mg base 1 "_law_is_integer" spIsInt) : FnOk P w K mg base L2.CX0 5 f fd ["_law_script"] (spLaw K) := by
  refine fnok_of F sc_law (fun vs H Q E h => ?_) (fun cdv A outer s H vs Q E hr h => ?_)
  · obtain ⟨a, ns, rfl, _⟩ := h
    rfl
  · obtain ⟨a, ns, rfl, hs, hns, k⟩ := h
    refine ⟨_, (pss_cons (ps_for PassesOwn.never rfl (pi_range1 rfl B.range (pa_cons (pe_callB (call_max2A rfl) rfl B.max (by decide +kernel) (pa_cons pe_int (pa_cons (pe_callB (call_min2A rfl) rfl B.min (by decide +kernel) (pa_cons pe_int (pa_cons (pe_callB call_lenA rfl B.len (by decide +kernel) (pa_cons (pv 0) pa_nil)) pa_nil))) pa_nil))) pa_nil)) (pg_name (i := 1) sc_law.nd rfl (Or.inl rfl))
   (pss_cons (ps_set (i := 2) sc_law.nd rfl (Or.inr rfl) (pe_cA c_law_bag hr (by decide) rfl (pa_cons (pv 0) (pa_cons (pv 1) pa_nil))))
  (pss_cons (ps_set (i := 3) sc_law.nd rfl (Or.inl rfl) (pe_cA c_law_of hr (by decide) rfl (pa_cons (pv 2) (pa_cons (pe_lst (pa_cons pe_int (pa_cons pe_int (pa_cons pe_int (pa_cons pe_int (pa_cons (pe_cA c_law_take hr (by decide) rfl (pa_cons (pv 2) (pa_cons pe_int pa_nil))) (pa_cons pe_int pa_nil))))))) pa_nil))))
  (pss_cons (ps_setLc (i := 4) (own := [("_law_turn", 5)]) rfl sc_law.nd rfl rfl (sw_true rfl rfl rfl (by decide +kernel)) (pi_range1 rfl B.range (pa_cons (pv 3) pa_nil)) (blkOk_by (N := N_law) (sc := defScope s_law) (by decide +kernel)) (fun _ _ _ _ _ => (pg_name (i := 5) sc_law.nd rfl (Or.inl rfl))) (fun _ _ _ _ _ => pts_nil) (fun _ _ _ _ _ => (pe_cA c_law_of hr (by decide) rfl (pa_cons (pv 2) (pa_cons (pe_lst (pa_cons pe_non (pa_cons pe_int (pa_cons (pe_cA c_law_number hr (by decide) rfl (pa_cons (pv 2) (pa_cons (pe_lst pa_nil) pa_nil))) (pa_cons (pe_cA c_law_word hr (by decide) rfl (pa_cons (pv 2) (pa_cons pe_int pa_nil))) (pa_cons pe_str pa_nil)))))) pa_nil)))))
  (pss_cons (ps_setLc (i := 6) (own := [("_law_item", 7)]) rfl sc_law.nd rfl rfl (sw_true rfl rfl rfl (by decide +kernel)) (pi_list (pv 4)) (blkOk_by (N := N_law) (sc := defScope s_law) (by decide +kernel)) (fun _ _ _ _ _ => (pg_name (i := 7) sc_law.nd rfl (Or.inl rfl))) (fun _ _ _ _ _ => pts_nil) (fun _ _ _ _ _ => (pv 7)))
  (pss_cons (ps_if (PW.pt (pw_or (pt_cmpR (op_neA hr.units) (pe_cA c_weight hr (by decide) rfl (pa_cons (pv 4) pa_nil)) (pe_op op_addA (pv 3) pe_int) (nomark _)) (pw_or (pt_cmpR (op_neA hr.units) (pv 4) (pv 6) (nomark _)) (pw_or (pt_cmpR (op_neA hr.units) (pe_cA c_weight hr (by decide) rfl (pa_cons pe_non pa_nil)) pe_int (nomark _)) (pw_or1 (pt_cmpR (op_neA hr.units) (pe_cA c_weight hr (by decide) rfl (pa_cons (pe_lst pa_nil) pa_nil)) pe_int (nomark _)))))))
   (pss_one (ps_ret pe_bl))
   pss_nil)
  (pss_cons (ps_set (i := 8) sc_law.nd rfl (Or.inl rfl) (pe_tup (pa_cons pe_str (pa_cons (pe_cA c_law_class hr (by decide) rfl (pa_cons (pv 2) pa_nil)) (pa_cons (pe_cA c_law_of hr (by decide) rfl (pa_cons (pv 2) (pa_cons (pe_lst (pa_cons pe_non (pa_cons (pe_cA c_law_class hr (by decide) rfl (pa_cons (pv 2) pa_nil)) pa_nil))) pa_nil))) pa_nil)))))
  (pss_cons (ps_for PassesOwn.never rfl (pi_list (pe_lst (pa_cons pe_int (pa_cons (pe_un un_neg pe_int) (pa_cons (pe_cA c_law_number hr (by decide) rfl (pa_cons (pv 2) (pa_cons (pe_lst pa_nil) pa_nil))) (pa_cons pe_str (pa_cons (pe_cA c_law_word hr (by decide) rfl (pa_cons (pv 2) (pa_cons pe_int pa_nil))) (pa_cons (pv 8) pa_nil)))))))) (pg_name (i := 9) sc_law.nd rfl (Or.inl rfl))
   (pss_one (ps_if (PW.pt (pw_or (pt_cmpR (op_neA hr.units) (pe_cA c_weight hr (by decide) rfl (pa_cons (pv 9) pa_nil)) pe_int (nomark _)) (pw_or1 (pt_not (pt_val (pe_cA c_law_is_integer hr (by decide) rfl (pa_cons (pe_cA c_weight hr (by decide) rfl (pa_cons (pv 9) pa_nil)) pa_nil)))))))
   (pss_one (ps_ret pe_bl))
   pss_nil)))
  (pss_cons (ps_expr (pe_bm PySem.F.plainAttrs_list PySem.F.slot_list_append PySem.F.type_list_append mt_append (pv 4) (pa_cons pe_non pa_nil)))
  (pss_one (ps_if (PW.pt (pw_or (pt_cmpR (op_neA hr.units) (pe_cA c_weight hr (by decide) rfl (pa_cons (pv 4) pa_nil)) (pe_op op_addA (pv 3) pe_int) (nomark _)) (pw_or (pt_not (pt_val (pe_cA c_law_is_integer hr (by decide) rfl (pa_cons (pe_cA c_weight hr (by decide) rfl (pa_cons (pv 4) pa_nil)) pa_nil)))) (pw_or1 (pt_cmpR (op_neA hr.units) (pe_cA c_weight hr (by decide) rfl (pa_cons (pe_lst (pa_cons pe_non pa_nil)) pa_nil)) pe_int (nomark _))))))
   (pss_one (ps_ret pe_bl))
   pss_nil)))))))))))
  (pss_one (ps_ret pe_bl))), ?_⟩
    walk_at "rd"
    refine r_lenL hs ?_
    walk_at "rd"
    rw [List.length_map]
    generalize hN : (if (if (ns.length : Int) < 16 then (ns.length : Int) else 16) > 1 then (if (ns.length : Int) < 16 then (ns.length : Int) else 16) else 1) = N
    have hN1 : N ≤ 63 := by rw [← hN]; split <;> split <;> omega
    have hN0 : 0 ≤ N := by rw [← hN]; split <;> split <;> omega
    refine ⟨_, rfl, by omega, by omega, for_range (lo := 0) (n := N.toNat) (fun i σ H' => ∃ u1 u2 u3 u4 u5 u6 u7 u8 u9 : Option V, σ = [some (.ref a), u1, u2, u3, u4, u5, u6, u7, u8, u9] ∧ Evl.Ex H H') ?_ ?_ ?_⟩
    · exact ⟨_, _, _, _, _, _, _, _, _, rfl, Evl.Ex.refl _⟩
    · rintro i σ H0 hi ⟨u1, u2, u3, u4, u5, u6, u7, u8, u9, rfl, e0⟩
      walk_at "rd"
      refine ⟨a, ns, i, by rw [Int.zero_add]; rfl, Evl.ex_l e0 hs, by omega, hns, fun b l hb hl => ?_⟩
      have eb : hid b (upd H0 b (.lst l)) = H0 := hid_start hb
      generalize hH1 : upd H0 b (.lst l) = H1 at eb
      have b1 : Bag b 0 H1 := ⟨l, by rw [← hH1]; exact upd_same, hl⟩
      clear hH1
      walk_at "rd"
      -- many = of(bag, [0, 1, 2, 3, take(bag, 61), 60])
      refine ⟨b, _, 0, rfl, b1, by omega, by decide, by decide, fun d1 H2 hd1 hd1' r1 => ?_⟩
      walk_at "rd"
      refine ⟨by show 6 ≤ sizeLine; decide, fun p hp => ?_⟩
      obtain ⟨r2, hp2⟩ := r1.bag.new (o := .lst [.int 0, .int 1, .int 2, .int 3, .int d1, .int 60]) hp
      generalize upd H2 p (HO.lst _) = H3 at r2 hp2 ⊢
      replace r2 := r1.trans r2
      walk_at "rd"
      refine ⟨b, _, 1, rfl, r2.bag, by omega, .inl ⟨p, _, rfl, .inl (SqL.of hp2), by simp, by simp, fun y hy H4 r3 => ?_⟩⟩
      obtain ⟨m, rfl, hm⟩ : ∃ m : Nat, y = V.int (m : Int) ∧ m ≤ 60 := by
        simp only [List.mem_cons, List.not_mem_nil, or_false] at hy
        obtain ⟨j, rfl⟩ := Int.eq_ofNat_of_zero_le hd1
        rcases hy with rfl | rfl | rfl | rfl | rfl | rfl
        · exact ⟨0, rfl, by omega⟩
        · exact ⟨1, rfl, by omega⟩
        · exact ⟨2, rfl, by omega⟩
        · exact ⟨3, rfl, by omega⟩
        · exact ⟨j, rfl, by omega⟩
        · exact ⟨60, rfl, by omega⟩
      replace r3 := r2.trans r3
      clear r1 r2 hp2 hp
      walk_at "rd"
      -- some = [..]
      refine ⟨_, rfl, by omega, by omega, fun D hD => ?_⟩
      have nDb : D ≠ b := by
        obtain ⟨l, h1, _⟩ := r3.bag
        exact (ne_of_none h1 hD).symm
      have hD0 : hid b H1 D = none := Evl.fresh_back r3.ex (hid_none hD)
      refine lc_range (lo := 0) (n := (m : Int).toNat) (fun i H' => ∃ xs : List V, xs.length = i ∧ (∀ v ∈ xs, Itm v) ∧ H' D = some (.lst xs) ∧ Drw b (2 + 100 * i) H4 H') ?_ ?_ ?_
      · exact ⟨[], rfl, fun _ h => by (cases h), upd_same, (r3.bag.new hD).1⟩
      · rintro i H' hi2 ⟨xs, hl, hI, h1, r4⟩
        walk_at "rd"
        refine ⟨rfl, ?_⟩
        walk_at "rd"
        refine ⟨Nat.zero_le _, fun q hq => ?_⟩
        obtain ⟨r5, hq5⟩ := r4.bag.new (o := .lst []) hq
        generalize upd H' q (HO.lst _) = H5 at r5 hq5 ⊢
        walk_at "rd"
        refine ⟨b, q, 2 + 100 * i, [], rfl, r5.bag, by omega, hq5, by simp, fun r H6 hr6 r6 => ?_⟩
        walk_at "rd"
        refine ⟨b, 30, 2 + 100 * i + 10, rfl, r6.bag, by omega, by omega, fun z H7 hz r7 => ?_⟩
        walk_at "rd"
        refine ⟨by show 5 ≤ sizeLine; decide, fun p hp => ?_⟩
        obtain ⟨r8, hp8⟩ := r7.bag.new (o := .lst [.non, .int 0, .int r, .str z, .str ""]) hp
        generalize upd H7 p (HO.lst _) = H8 at r8 hp8 ⊢
        walk_at "rd"
        refine ⟨b, _, 2 + 100 * i + 42, rfl, r8.bag, by omega, .inl ⟨p, _, rfl, .inl (SqL.of hp8), by simp, by simp, fun y hy H9 r9 => ?_⟩⟩
        have rr := (((r5.trans r6).trans r7).trans r8).trans r9
        have hy : Itm y := by
          simp only [List.mem_cons, List.not_mem_nil, or_false] at hy
          rcases hy with rfl | rfl | rfl | rfl | rfl
          · exact trivial
          · exact trivial
          · exact trivial
          · exact word_ok hz
          · show PyData.strOk "" = true
            decide +kernel
        have hD2 : H9 D = some (.lst xs) := hid_get (rr.ex _ _ (hid_of h1 nDb))
        refine ⟨_, hD2, by rw [sizeLine_eq]; omega, xs ++ [y], by simp [hl], ?_, upd_same, ?_⟩
        · intro v hv
          rcases List.mem_append.mp hv with hv | hv
          · exact hI v hv
          · rw [List.mem_singleton.mp hv]; exact hy
        · exact (Drw.put (r4.trans rr) (hid_none hD) nDb).mono (by omega)
      · rintro H5 ⟨xs, hl, hI, hD5, r5⟩
        replace hD5 := hid_of hD5 nDb
        replace r5 := r3.trans r5
        have hxl : xs.length = m := by omega
        walk_at "rd"
        -- copy = [..]
        refine ⟨D, rfl, ⟨xs, SqL.of (hid_get hD5)⟩, fun D2 hD2 => ?_⟩
        have nD2b : D2 ≠ b := by
          obtain ⟨l, h1, _⟩ := r5.bag
          exact (ne_of_none h1 hD2).symm
        refine lc_list (K := K) (a := D) (xs := xs) (fun i H' => H' D2 = some (.lst (xs.take i)) ∧ Drw b (2 + 100 * (m : Int).toNat) H5 H') ?_ ?_ ?_ ?_
        · exact ⟨upd_same, (r5.bag.new hD2).1⟩
        · rintro i H' hi2 ⟨_, r6⟩
          exact SqL.of (hid_get (r6.ex _ _ hD5))
        · rintro i x H' hx ⟨h6, r6⟩
          walk_at "rd"
          refine ⟨rfl, ?_⟩
          walk_at "rd"
          refine ⟨_, h6, by rw [sizeLine_eq, List.length_take]; omega, ?_, Drw.put r6 (hid_none hD2) nD2b⟩
          rw [upd_same, List.take_add_one, hx]
          rfl
        · rintro H6 ⟨hc6, r6⟩
          rw [List.take_length] at hc6
          replace hc6 := hid_of hc6 nD2b
          have hD6 := r6.ex _ _ hD5
          replace r6 := r5.trans r6
          walk_at "rd"
          -- if weight(some) != many + 1 or some != copy or ..
          refine ⟨_, rfl, .inr (.inr (.inr (.inr ⟨D, xs, rfl, SqL.of (hid_get hD6), ?_⟩)))⟩
          walk_at "rd"
          refine iteNY (by rw [hxl]; congr 1; omega) ?_
          walk_at "rd"
          have hsh := shaped_list (xs := xs) fun v hv => (hI v hv).sc
          have hda := dpAll_sc (K := K) (H := H6) (xs := xs) fun v hv => (hI v hv).sc
          refine r_neDF (Dp.lst (SqL.of (hid_get hD6)) hda) (Dp.lst (SqL.of (hid_get hc6)) hda) hsh ?_
          walk_at "rd"
          refine ⟨_, rfl, .inl ⟨rfl, ?_⟩⟩
          walk_at "rd"
          refine iteNY rfl ?_
          walk_at "rd"
          refine ⟨Nat.zero_le _, fun p hp => ?_⟩
          obtain ⟨r7, hp7⟩ := r6.bag.new (o := .lst []) hp
          generalize upd H6 p (HO.lst _) = H7 at r7 hp7 ⊢
          have hD7 := r7.ex _ _ hD6
          replace r7 := r6.trans r7
          clear hp r3 r5 r6 hc6 hda hD6
          walk_at "rd"
          refine ⟨_, rfl, .inr (.inr (.inr (.inr ⟨p, [], rfl, SqL.of (hid_get hp7), ?_⟩)))⟩
          walk_at "rd"
          refine iteNY rfl ?_
          walk_at "rd"
          -- raised = ("raises", class(bag), of(bag, [None, class(bag)]))
          refine ⟨b, _, rfl, r7.bag, by omega, fun z H8 hz r8 => ?_⟩
          walk_at "rd"
          refine ⟨b, _, rfl, r8.bag, by omega, fun z2 H9 hz2 r9 => ?_⟩
          walk_at "rd"
          refine ⟨by show 2 ≤ sizeLine; decide, fun p2 hp2 => ?_⟩
          obtain ⟨r10, hp10⟩ := r9.bag.new (o := .lst [.non, .str z2]) hp2
          generalize upd H9 p2 (HO.lst _) = H10 at r10 hp10 ⊢
          walk_at "rd"
          refine ⟨b, _, _, rfl, r10.bag, by omega, .inl ⟨p2, _, rfl, .inl (SqL.of hp10), by simp, by simp, fun y2 hy2 H11 r11 => ?_⟩⟩
          walk_at "rd"
          refine ⟨by show 3 ≤ sizeLine; decide, fun p3 hp3 => ?_⟩
          obtain ⟨r12, hp12⟩ := r11.bag.new (o := .tup [.str "raises", .str z, y2]) hp3
          generalize upd H11 p3 (HO.tup _) = H12 at r12 hp12 ⊢
          replace r12 := (((r8.trans r9).trans r10).trans r11).trans r12
          have hD12 := r12.ex _ _ hD7
          replace r12 := r7.trans r12
          clear r7 r8 r9 r10 r11 hp10 hp2 hp3 hy2 hp7 hD7
          walk_at "rd"
          -- for answer in [0, -1, number(bag, []), "", word(bag, 30), raised]
          refine ⟨Nat.zero_le _, fun p4 hp4 => ?_⟩
          obtain ⟨r13, hp13⟩ := r12.bag.new (o := .lst []) hp4
          generalize upd H12 p4 (HO.lst _) = H13 at r13 hp13 ⊢
          walk_at "rd"
          refine ⟨b, p4, _, [], rfl, r13.bag, by omega, hp13, by simp, fun nn H14 hnn r14 => ?_⟩
          walk_at "rd"
          refine ⟨b, 30, _, rfl, r14.bag, by omega, by omega, fun zz H15 hzz r15 => ?_⟩
          walk_at "rd"
          refine ⟨by show 6 ≤ sizeLine; decide, fun p5 hp5 => ?_⟩
          obtain ⟨r16, hp16⟩ := r15.bag.new (o := .lst [.int 0, .int (-1), .int nn, .str "", .str zz, .ref p3]) hp5
          have r13' := ((r13.trans r14).trans r15).trans r16
          generalize upd H15 p5 (HO.lst _) = H16 at r16 hp16 r13' ⊢
          have hD16 := r13'.ex _ _ hD12
          have hp3' := r13'.ex _ _ hp12
          have r16' := r12.trans r13'
          clear r12 r13 r14 r15 r16 r13' hp13 hp4 hp5 hD12 hp12
          refine ⟨p5, rfl, ⟨_, SqL.of (hid_get hp16)⟩, for_list (K := K) (a := p5) (xs := [.int 0, .int (-1), .int nn, .str "", .str zz, .ref p3]) (fun i σ H' => H16 = H' ∧ ∃ u1 u2 u5 u6 u7 u8 u9 : Option V, σ = [some (.ref a), u1, u2, some (.int (m : Int)), some (.ref D), u5, u6, u7, u8, u9]) ?_ ?_ ?_ ?_⟩
          · exact ⟨rfl, _, _, _, _, _, _, _, rfl⟩
          · rintro i σ H' _ ⟨rfl, _⟩
            exact SqL.of (hid_get hp16)
          · rintro j x σ H' hx ⟨rfl, u1, u2, u5, u6, u7, u8, u9, rfl⟩
            have hw : ∀ Q2 : VK, Q2 (.int 1) H16 → ∀ E2, spWeight K ([x] ++ []) H16 Q2 E2 := by
              intro Q2 q E2
              have hm := List.mem_of_getElem? hx
              simp only [List.mem_cons, List.not_mem_nil, or_false] at hm
              refine ⟨x, rfl, ?_⟩
              rcases hm with rfl | rfl | rfl | rfl | rfl | rfl
              · exact .inr (.inl ⟨_, rfl, q⟩)
              · exact .inr (.inl ⟨_, rfl, q⟩)
              · exact .inr (.inl ⟨_, rfl, q⟩)
              · exact .inr (.inr (.inl ⟨_, rfl, q⟩))
              · exact .inr (.inr (.inl ⟨_, rfl, q⟩))
              · exact .inr (.inr (.inr (.inl ⟨p3, _, rfl, SqT.of (hid_get hp3'), q⟩)))
            walk_at "rd"
            refine hw _ ?_ _
            walk_at "rd"
            refine iteNY rfl ?_
            walk_at "rd"
            refine hw _ ?_ _
            walk_at "rd"
            refine ⟨1, rfl, ?_⟩
            walk_at "rd"
            exact ⟨rfl, _, _, _, _, _, _, _, rfl⟩
          · rintro σ H' ⟨rfl, u1, u2, u5, u6, u7, u8, u9, rfl⟩
            walk_at "rd"
            refine r_tyL (SqL.of (hid_get hD16)) ?_
            walk_at "rd"
            refine r_app (hid_get hD16) (by rw [sizeLine_eq]; omega) ?_
            have nDb2 : D ≠ b := nDb
            have r17 : Bag b _ (upd H16 D (.lst (xs ++ [.non]))) := (Drw.put (H0 := fun _ => none) ⟨fun _ _ h => by (simp [hid] at h), r16'.bag⟩ (by simp [hid]) nDb2).bag
            have hH : Evl.Ex H0 (upd H16 D (.lst (xs ++ [.non]))) := by
              rw [← eb]
              exact Evl.Ex.mut (r16'.ex.trans hid_ex) hD0
            walk_at "rd"
            refine ⟨_, rfl, .inr (.inr (.inr (.inr ⟨D, _, rfl, SqL.of upd_same, ?_⟩)))⟩
            walk_at "rd"
            refine iteNY (by rw [List.length_append, hxl]; congr 1; show (1 : Int) + ((m + 1 : Nat) : Int) = _; omega) ?_
            walk_at "rd"
            refine ⟨_, rfl, .inr (.inr (.inr (.inr ⟨D, _, rfl, SqL.of upd_same, ?_⟩)))⟩
            walk_at "rd"
            refine ⟨_, rfl, ?_⟩
            walk_at "rd"
            refine ⟨by show 1 ≤ sizeLine; decide, fun p6 hp6 => ?_⟩
            walk_at "rd"
            refine ⟨_, rfl, .inr (.inr (.inr (.inr ⟨p6, _, rfl, SqL.of upd_same, ?_⟩)))⟩
            walk_at "rd"
            refine iteNY rfl ?_
            walk_at "rd"
            exact ⟨_, _, _, _, _, _, _, _, _, rfl, e0.trans (hH.trans (Evl.Ex.new hp6))⟩
    · rintro σ H' ⟨u1, u2, u3, u4, u5, u6, u7, u8, u9, rfl, e0⟩
      walk_at "rd"
      exact k _
end
end WP

set_option Elab.async false
set_option linter.all false
set_option maxRecDepth 100000
set_option maxHeartbeats 4000000
namespace WP
open PySem PySem.Spec PyProof.Rows L2
local macro_rules | `(tactic| walk_at "rd") => `(tactic| repeat (first
  | with_reducible refine r_seq ?_ | with_reducible refine r_var rfl ?_ | with_reducible refine r_c ?_ | with_reducible refine r_op ?_ | with_reducible refine r_cons ?_ | with_reducible refine r_nil ?_
  | with_reducible refine r_cb ?_ | with_reducible refine r_call ?_ | with_reducible refine r_test ?_ | with_reducible refine r_B ?_ | with_reducible refine r_bl ?_ | with_reducible refine r_asg ?_ | with_reducible refine r_asgS ?_
  | with_reducible refine r_ret ?_ | with_reducible refine r_drop ?_ | with_reducible refine r_ifS ?_ | with_reducible refine r_if ?_ | with_reducible refine r_and ?_ | with_reducible refine r_or ?_ | with_reducible refine r_not ?_
  | with_reducible refine r_andV ?_ | with_reducible refine r_orV ?_ | with_reducible refine r_notV ?_ | with_reducible refine r_chain ?_ | with_reducible refine r_sl ?_ | with_reducible refine r_nopart ?_ | with_reducible refine r_part ?_
  | with_reducible refine r_intO ?_ | with_reducible refine r_two ?_ | with_reducible refine r_m1 ?_ | with_reducible refine r_bm ?_ | with_reducible refine r_next ?_ | with_reducible refine r_for ?_ | with_reducible refine r_rng1 ?_ | with_reducible refine r_iList ?_ | with_reducible refine r_lc ?_ | with_reducible refine r_yes ?_ | with_reducible refine r_gN ?_ | with_reducible refine r_par ?_ | with_reducible refine r_un ?_ | with_reducible refine r_brk ?_ | with_reducible refine r_cont ?_
  | with_reducible refine r_I0 ?_ | with_reducible refine r_U ?_ | with_reducible refine r_addI ?_ | with_reducible refine r_abs ?_ | with_reducible refine r_intI ?_ | with_reducible refine r_max2 ?_ | with_reducible refine r_min2 ?_
  | with_reducible refine r_ltI ?_ | with_reducible refine r_leI ?_ | with_reducible refine r_gtI ?_ | with_reducible refine r_geI ?_ | with_reducible refine r_isN_non ?_ | with_reducible refine r_isN_int ?_ | with_reducible refine r_isN_str ?_ | with_reducible refine r_isN_bl ?_ | with_reducible refine r_isN_ref ?_ | with_reducible refine r_isN ?_ | with_reducible refine r_isB ?_ | with_reducible refine r_isnotN_non ?_ | with_reducible refine r_isnotN_int ?_ | with_reducible refine r_isnotN_str ?_ | with_reducible refine r_isnotN_bl ?_ | with_reducible refine r_isnotN_ref ?_ | with_reducible refine r_isnotN ?_ | with_reducible refine r_isnotB ?_
  | with_reducible refine r_inS ?_ | with_reducible refine r_eqS rfl ?_ | with_reducible refine r_neS rfl ?_ | with_reducible refine r_lst ?_ | with_reducible refine r_tup ?_ | with_reducible refine iteT ?_ | with_reducible refine iteF ?_))
local macro_rules | `(tactic| walk_at "isi") => `(tactic| (first
  | with_reducible refine r_isi_non_int ?_
  | with_reducible refine r_isi_non_str ?_
  | with_reducible refine r_isi_non_list ?_
  | with_reducible refine r_isi_non_tuple ?_
  | with_reducible refine r_isi_non_bool ?_
  | with_reducible refine r_isi_bl_int ?_
  | with_reducible refine r_isi_bl_str ?_
  | with_reducible refine r_isi_bl_list ?_
  | with_reducible refine r_isi_bl_tuple ?_
  | with_reducible refine r_isi_bl_bool ?_
  | with_reducible refine r_isi_int_int ?_
  | with_reducible refine r_isi_int_str ?_
  | with_reducible refine r_isi_int_list ?_
  | with_reducible refine r_isi_int_tuple ?_
  | with_reducible refine r_isi_int_bool ?_
  | with_reducible refine r_isi_str_int ?_
  | with_reducible refine r_isi_str_str ?_
  | with_reducible refine r_isi_str_list ?_
  | with_reducible refine r_isi_str_tuple ?_
  | with_reducible refine r_isi_str_bool ?_
  | with_reducible refine r_isi_lst_int (SqL.of (by assumption)) ?_
  | with_reducible refine r_isi_lst_str (SqL.of (by assumption)) ?_
  | with_reducible refine r_isi_lst_list (SqL.of (by assumption)) ?_
  | with_reducible refine r_isi_lst_tuple (SqL.of (by assumption)) ?_
  | with_reducible refine r_isi_lst_bool (SqL.of (by assumption)) ?_
  | with_reducible refine r_isi_tup_int (SqT.of (by assumption)) ?_
  | with_reducible refine r_isi_tup_str (SqT.of (by assumption)) ?_
  | with_reducible refine r_isi_tup_list (SqT.of (by assumption)) ?_
  | with_reducible refine r_isi_tup_tuple (SqT.of (by assumption)) ?_
  | with_reducible refine r_isi_tup_bool (SqT.of (by assumption)) ?_))
local macro_rules | `(tactic| walk_at "rs") => `(tactic| (first
  | walk_at "isi"
  | refine r_ixL (SqL.of (by assumption)) rfl ?_ | refine r_ixL (SqL.of upd_same) rfl ?_
  | refine r_I (C := fun _ j => 0 < j) (by first | decide | assumption | omega) ?_
  | refine r_mulI (.inl ⟨by decide, by decide⟩) ?_ | refine r_mulI (.inr ⟨by decide, by decide⟩) ?_ | refine r_mulI (.inr ⟨by omega, by omega⟩) ?_ | refine r_mulI (.inl ⟨by omega, by omega⟩) ?_
  | refine r_I (wide_div (b := 64) (by decide) (by decide) (by decide) (by decide)) ?_
  | refine r_I (C := CPow) ⟨by decide, by decide, by decide⟩ ?_
  | refine r_setL (by assumption) rfl ?_ | refine r_setL upd_same rfl ?_))
local macro_rules | `(tactic| walk_at "rx") => `(tactic| (walk_at "rd"; (repeat (walk_at "rs"; walk_at "rd"))))

def steps : Nat := 600
def d_weight : He.DefD := ⟨("weight", none), "weight", "weight", defArgs s_weight, defBody s_weight, defScope s_weight, [], []⟩
def d_law_bag : He.DefD := ⟨("_law_bag", none), "_law_bag", "_law_bag", defArgs s_law_bag, defBody s_law_bag, defScope s_law_bag, [], []⟩
def d_law_take : He.DefD := ⟨("_law_take", none), "_law_take", "_law_take", defArgs s_law_take, defBody s_law_take, defScope s_law_take, [], []⟩
def d_law_of : He.DefD := ⟨("_law_of", none), "_law_of", "_law_of", defArgs s_law_of, defBody s_law_of, defScope s_law_of, [], []⟩
def d_law_number : He.DefD := ⟨("_law_number", none), "_law_number", "_law_number", defArgs s_law_number, defBody s_law_number, defScope s_law_number, [], []⟩
def d_law_word : He.DefD := ⟨("_law_word", none), "_law_word", "_law_word", defArgs s_law_word, defBody s_law_word, defScope s_law_word, [], []⟩
def d_law_class : He.DefD := ⟨("_law_class", none), "_law_class", "_law_class", defArgs s_law_class, defBody s_law_class, defScope s_law_class, [], []⟩
def d_law_is_integer : He.DefD := ⟨("_law_is_integer", none), "_law_is_integer", "_law_is_integer", defArgs s_law_is_integer, defBody s_law_is_integer, defScope s_law_is_integer, [], []⟩
def d_law : He.DefD := ⟨("law", none), "law", "law", defArgs s_law, defBody s_law, defScope s_law, [], []⟩
def fn : List He.DefD := [d_weight, d_law_bag, d_law_take, d_law_of, d_law_number, d_law_word, d_law_class, d_law_is_integer, d_law]
def fa0 : List He.Fa := [.glo "weight", .glo "_law_bag", .glo "_law_take", .glo "_law_of", .glo "_law_number", .glo "_law_word", .glo "_law_class", .glo "_law_is_integer", .glo "law"]
def fa : List He.Fa := blFa ++ fa0
def loose : List PySem.Str := ["weight", "_law_bag", "_law_take", "_law_of", "_law_number", "_law_word", "_law_class", "_law_is_integer"]
abbrev R : PySem.W.OpenRow := PySem.W.OpenLaw.row PySem.Challenge.rw_whatpasses_k06_weights
abbrev hk : PySem.W.Hook := He.hookD 5 fa fn
def ob (s : PySem.W.SharedT) : He.AlD := He.obsDG 5 fa fn (HandSHeadRun.getT s)
theorem ob_eq (s : PySem.W.SharedT) : ob s = hk.obs s.abs := He.obsDG_eq (HandSHeadRun.getT_eq s)
theorem run (w : World) : HandSHeadRun.RunEq R (PySem.W.view R.prog [10]) hk ob steps loose w := by
  intro os
  kernel_rfl
theorem facts {P : Program} {w : World} {K : PySem.W.Frag} {h : Heap} {mg : Str → Option Value} {f : Addr} (X : K.In h) (G : h.Ns mainGlobals mg) (hfa : mg ("law" : Str) = some (.ref f)) (c : He.SaysD fa fn K) :
    ∃ fd : FuncData, (∀ (s : Shared) (v : Value), BindsTo s fd ⟨[v], []⟩ [("_law_script", v)]) ∧ ∀ base : Heap, K.In base → base.Ns mainGlobals mg → FnOk P w K mg base L2.CX0 5 f fd ["_law_script"] (spLaw K) := by
  have B : Bl mg := bl_of X G c
  obtain ⟨fd, F⟩ := c.def_ 8 (d := d_law) rfl
  have e := hfa.symm.trans (He.glo_ok X G (c.fact 25 (f := .glo "law") rfl))
  cases e
  have b := FunD.bindsA (ps := ["_law_script"]) F fun _ _ _ _ _ _ us hl => match us, hl with | [_], _ => rfl
  refine ⟨fd, fun s v => b s [v] rfl, fun base _ _ => ?_⟩
  have take := c_take (P := P) (w := w) (base := base) (at_of X G c 2 19) B
  have of_ := c_of (P := P) (w := w) (base := base) (at_of X G c 3 20) B take
  exact c_law F B take of_ (c_word (at_of X G c 5 22) B take of_) (c_class (at_of X G c 6 23) B take of_) (c_number (at_of X G c 4 21) B take of_) (c_bag (at_of X G c 1 18) B) (c_weight (at_of X G c 0 17) B) (c_is_integer (at_of X G c 7 24) B)
end WP
open PySem PySem.W PySem.Calls PyProof.Rows
set_option maxRecDepth 100000 in
set_option maxHeartbeats 0 in
theorem PySem.Challenge.cw_whatpasses_k06_weights_holds : PySem.Challenge.rw_whatpasses_k06_weights.Holds := by
  w_on; o_law
  refine HandSHeadRun.head_any (r := OpenLaw.row PySem.Challenge.rw_whatpasses_k06_weights) (q := view (OpenLaw.row PySem.Challenge.rw_whatpasses_k06_weights).prog [10]) (H := WP.hk) (ob := WP.ob) (M := WP.steps) (loose := WP.loose) (d := HandSHeadRun.topDef (OpenLaw.row PySem.Challenge.rw_whatpasses_k06_weights).prog 10) (kwd := []) WP.ob_eq
    (by kernel_rfl) (fun s => by kernel_rfl) WP.run (by kernel_rfl) (by kernel_rfl) (by kernel_rfl) (by rfl) (by first | assumption | decide +kernel) (by decide +kernel) ⟨rfl, rfl, rfl, rfl, rfl, by decide +kernel⟩ ?hw ?hc
  case hw => w_witness2
  case hc =>
    refine L2.walk_ofE (l := PySem.Challenge.rw_whatpasses_k06_weights) (n := 63) (k := 5) (x := "_law_script") (CX := L2.CX0) rfl (by decide) (by kernel_rfl) ⟨rfl, by decide, by decide⟩ ?F (fun _ _ _ _ z => z)
    intro w mg fa h Y G hmg0
    obtain ⟨K, KX, c⟩ := Y
    have hmg : mg ("law" : PySem.Str) = some (.ref fa) := by
      have e : (HandSHeadRun.topDef (OpenLaw.row PySem.Challenge.rw_whatpasses_k06_weights).prog 10).name = ("law" : PySem.Str) := by kernel_rfl
      rw [← e]
      exact hmg0
    obtain ⟨fd, hb, hF⟩ := WP.facts (P := (PySem.Challenge.rw_whatpasses_k06_weights).prog) (w := w) KX G hmg c
    exact ⟨K, fd, WP.spLaw K, KX, hb, fun H a ns hl _ hS => ⟨a, ns, rfl, hS, hl, fun _ => rfl⟩, hF⟩
#print axioms PySem.Challenge.cw_whatpasses_k06_weights_holds

