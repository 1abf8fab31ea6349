import PyProof.Rows.All
import Wide.All
import OpenK.AllK
import Wide.FinOn
import HandS.ForMost
import HandS.Wide
import HandS.WideBits
import HandS.Flow
import HandS.Style
import HandS.IsInst
import HandS.Codes
import HandS.Evl
import HandS.TupAny
import HandS.Walk
import HandS.Defaults
import HandS.WordsExc
import HandS.Head0
import HandS.Head1
import HandS.Head2
import HandS.HeadEnd
import HandS.HeadHook1
import HandS.HeadHook2
import KE.KExcSuper
import HandS.ExcInit
import HandS.Nested
import HandS.ExcField
import HandS.ExcOwn
import HandS.Star
import HandS.Iter
import HandS.Spec
import KE.GoesMore
import KE.GoesEnum
import PyProof.Draws
import PyProof.EnumStmt
import PyProof.EnumFor
import KE.KDictPairs
import HandS.Dict
import HandS.OwnEq
import HandS.ClsMeth
import HandS.HeadNt
import KE.KOpsOwn
import KE.KFmtOwn
import HandS.More
import HandS.WordsDict
import HandS.ExcIs
import HandS.ExcValue
import KE.KExcIs
import KE.KExcPX
import KE.KExcInit
import PyProof.ReprLen
import PyProof.ReprRoads
import PySem.Challenge.RW_whatpasses_k11_errors_made
set_option Elab.async false
set_option linter.all false
set_option maxRecDepth 100000
set_option maxHeartbeats 4000000
namespace WP
open PySem PySem.Spec PyProof.Rows L2

/-! ### rules that take what comes -/
def rAddA (K : PySem.W.Frag) : R2 := fun x y H Q => (∃ i j, x = .int i ∧ y = .int j ∧ Q (.int (i + j)) H) ∨ (∃ i j, x = .str i ∧ y = .str j ∧ i.length + j.length ≤ sizeLine ∧ Q (.str (i ++ j)) H) ∨ rCat x y H Q ∨ rCatT K x y H Q
def rMulA : R2 := fun x y H Q => (∃ i j, x = .int i ∧ y = .int j ∧ CMul i j ∧ Q (.int (i * j)) H) ∨ rRep x y H Q ∨ ∃ z n, x = .str z ∧ y = .int n ∧ MulOk z n ∧ Q (.str (Txt.mul z n)) H
def rLenA (K : PySem.W.Frag) : List V → Hp → VK → Prop := fun xs H Q => ∃ x n, xs = [x] ∧ LenV K x H n ∧ Q (.int (n : Nat)) H
def rAbsA : List V → Hp → VK → Prop := fun xs H Q => ∃ i, xs = [.int i] ∧ Q (.int (if i < 0 then -i else i)) H
def rIntA : List V → Hp → VK → Prop := fun xs H Q => (∃ i, xs = [.int i] ∧ Q (.int i) H) ∨ ∃ k, xs = [.bl k] ∧ Q (.int (if k then 1 else 0)) H
def rMax2A : List V → Hp → VK → Prop := fun xs H Q => ∃ i j, xs = [.int i, .int j] ∧ Q (.int (if j > i then j else i)) H
def rMin2A : List V → Hp → VK → Prop := fun xs H Q => ∃ i j, xs = [.int i, .int j] ∧ Q (.int (if j < i then j else i)) H
def rEqA (K : PySem.W.Frag) : R2 := fun x y H Q => rEq x y H Q ∨ rEqD K x y H Q
def rNeA (K : PySem.W.Frag) : R2 := fun x y H Q => rNe x y H Q ∨ rNeD K x y H Q
def rLtA : R2 := fun x y H Q => (∃ i j, x = .int i ∧ y = .int j ∧ Q (.bl (decide (i < j))) H) ∨ ∃ i j, x = .str i ∧ y = .str j ∧ Q (.bl (decide (i.cps.toList < j.cps.toList))) H
def rLeA : R2 := fun x y H Q => ∃ i j, x = .int i ∧ y = .int j ∧ Q (.bl (decide (i ≤ j))) H
def rGtA : R2 := fun x y H Q => ∃ i j, x = .int i ∧ y = .int j ∧ Q (.bl (decide (j < i))) H
def rGeA : R2 := fun x y H Q => ∃ i j, x = .int i ∧ y = .int j ∧ Q (.bl (decide (j ≤ i))) H
def rIsA : R2 := fun x y H Q => (y = .non ∧ Q (.bl (decide (x = .non))) H) ∨ ∃ a b : Bool, x = .bl a ∧ y = .bl b ∧ Q (.bl (decide (a = b))) H
def rIsNotA : R2 := fun x y H Q => (y = .non ∧ Q (.bl (!decide (x = .non))) H) ∨ ∃ a b : Bool, x = .bl a ∧ y = .bl b ∧ Q (.bl (!decide (a = b))) H
def rInA (K : PySem.W.Frag) : R2 := fun x y H Q => (∃ (c : Nat) (z : Str), x = .str ⟨#[c]⟩ ∧ y = .str z ∧ Q (.bl (decide (c ∈ z.cps.toList))) H) ∨ rIn K false x y H Q
def rNotInA (K : PySem.W.Frag) : R2 := fun x y H Q => (∃ (c : Nat) (z : Str), x = .str ⟨#[c]⟩ ∧ y = .str z ∧ Q (.bl (!decide (c ∈ z.cps.toList))) H) ∨ rIn K true x y H Q
def rSlA3 (K : PySem.W.Frag) : V → Option Int → Option Int → Hp → VK → Prop := fun x lo hi H Q => rSlS x lo hi H Q ∨ rSlL K x lo hi H Q
section
variable {X : Cx}
theorem op_addA (K : PySem.W.Frag) (h : X.K = K := by rfl) : OpR X (binaryOp .Add) (rAddA K) := by subst h; exact op_add.or (op_add_str.or (op_cat.or op_catT))
theorem op_mulStr : OpR X (binaryOp .Mult) (fun x y H Q => ∃ z n, x = .str z ∧ y = .int n ∧ MulOk z n ∧ Q (.str (Txt.mul z n)) H) := by
  rintro pins s σ H x y v u Q I rx ry ⟨z, n, rfl, rfl, hok, q⟩
  obtain ⟨t, rfl⟩ := rx
  obtain ⟨t', rfl⟩ := ry
  exact SB.mul hok fun _ _ => ⟨.str (Txt.mul z n), H, I.tok _, ⟨_, rfl⟩, q⟩
theorem op_mulA : OpR X (binaryOp .Mult) rMulA := op_mul.or (op_rep.or op_mulStr)
theorem call_lenA (K : PySem.W.Frag) (h : X.K = K := by rfl) : CallR X (.builtin "len") (rLenA K) := by subst h; exact call_len
theorem call_absA : CallR X (.builtin "abs") rAbsA := call_abs
theorem call_intA : CallR X (.type "int") rIntA := call_int1
theorem call_max2A (hc : X.calm = true) : CallR X (.builtin "max") rMax2A := call_max2 hc
theorem call_min2A (hc : X.calm = true) : CallR X (.builtin "min") rMin2A := call_min2 hc
theorem call_isinstanceA (K : PySem.W.Frag) (h : X.K = K := by rfl) : CallR X (.builtin "isinstance") (rIsi K) := by subst h; exact call_isi
theorem call_isinstanceTA (K : PySem.W.Frag) (h : X.K = K := by rfl) : CallR X (.builtin "isinstance") (rIsiT K) := by subst h; exact call_isiT
theorem call_allA (K : PySem.W.Frag) (hc : X.calm = true) (h : X.K = K := by rfl) : CallR X (.builtin "all") (rAll K) := by subst h; exact cr_all hc
theorem call_anyA (K : PySem.W.Frag) (hc : X.calm = true) (h : X.K = K := by rfl) : CallR X (.builtin "any") (rAny K) := by subst h; exact cr_any hc
theorem op_eqA (K : PySem.W.Frag) (hu : X.A.units + 64 < cLine) (h : X.K = K := by rfl) : OpR X (compareOp .Eq) (rEqA K) := by subst h; exact op_eq.or (op_eqD hu)
theorem op_neA (K : PySem.W.Frag) (hu : X.A.units + 64 < cLine) (h : X.K = K := by rfl) : OpR X (compareOp .NotEq) (rNeA K) := by subst h; exact op_ne.or (op_neD hu)
def rTupleA (K : PySem.W.Frag) : List V → Hp → VK → Prop := fun xs H Q => ∃ p ys, xs = [.ref p] ∧ ((SqL K H p ys ∧ ∀ l, H l = none → Q (.ref l) (upd H l (.tup ys))) ∨ (SqT K H p ys ∧ Q (.ref p) H))
def rListA (K : PySem.W.Frag) : List V → Hp → VK → Prop := fun xs H Q => ∃ p ys, xs = [.ref p] ∧ (SqL K H p ys ∨ SqT K H p ys) ∧ ∀ l, H l = none → Q (.ref l) (upd H l (.lst ys))
theorem call_tupleA (K : PySem.W.Frag) (h : X.K = K := by rfl) : CallR X (.type "tuple") (rTupleA K) := by subst h; exact call_tuple_of
theorem call_listA (K : PySem.W.Frag) (h : X.K = K := by rfl) : CallR X (.type "list") (rListA K) := by subst h; exact call_list_of
theorem op_ltA : OpR X (compareOp .Lt) rLtA := op_lt.or op_lt_str
theorem op_leA : OpR X (compareOp .LtE) rLeA := op_le
theorem op_gtA : OpR X (compareOp .Gt) rGtA := op_gt
theorem op_geA : OpR X (compareOp .GtE) rGeA := op_ge
theorem op_isA : OpR X (compareOp .Is) rIsA := op_isN.or op_isBl
theorem op_isnotA : OpR X (compareOp .IsNot) rIsNotA := op_notN.or op_notBl
theorem op_inA (K : PySem.W.Frag) (h : X.K = K := by rfl) : OpR X (compareOp .In) (rInA K) := by subst h; exact op_in_sign.or op_in_seq
theorem op_notInA (K : PySem.W.Frag) (h : X.K = K := by rfl) : OpR X (compareOp .NotIn) (rNotInA K) := by subst h; exact op_notIn_sign.or op_notIn_seq
theorem sl_A (K : PySem.W.Frag) (h : X.K = K := by rfl) : SlR X (rSlA3 K) := by subst h; exact sl_str.or sl_list
theorem ix_A (K : PySem.W.Frag) (h : X.K = K := by rfl) : IxR X (rIx K) := by subst h; exact ix_seq
def rJoinA (K : PySem.W.Frag) : V → List V → Hp → VK → Prop := fun x xs H Q => ∃ a p, ∃ ys : List Str, x = .str a ∧ xs = [.ref p] ∧ (SqL K H p (ys.map V.str) ∨ SqT K H p (ys.map V.str)) ∧ (ys.map (·.length)).sum + ys.length * a.length ≤ 16777216 ∧ Q (.str (Txt.join a ys)) H
theorem pe_joinA (K : PySem.W.Frag) {o e : Expr} {to te : TE} {apos pos : Pos} (ho : PE X o to) (he : PE X e te) (h : X.K = K := by rfl) (hs : starEach [e] X.env = [(false, eval e X.env)] := by rfl) (hbase : attributeBase o "join" X.env (eval o X.env) = eval o X.env := by rfl) (hline : (apos.endLine == pos.line) = true := by rfl) :
    PE X (.Call (.Attribute o "join" apos) [e] [] pos) (tM1 (rJoinA K) to te) := by subst h; exact pe_join ho he hs hbase hline
theorem pe_appendA (K : PySem.W.Frag) {o e : Expr} {to te : TE} {apos pos : Pos} (hb : PE X (.Call (.Attribute o "append" apos) [e] [] pos) (tBM X.K "list" rAppend to (tCons te tNil))) (h : X.K = K := by rfl) :
    PE X (.Call (.Attribute o "append" apos) [e] [] pos) (tBM K "list" rAppend to (tCons te tNil)) := by subst h; exact hb
end

/-! ### what is walked: a list, a tuple, a text -/
def iAny (K : PySem.W.Frag) (te : TE) : TI := fun σ H R => te σ H fun x H1 => (∃ a, x = .ref a ∧ (∃ xs, SqL K H1 a xs) ∧ R (Itl K a) H1) ∨ (∃ a, x = .ref a ∧ (∃ xs, SqT K H1 a xs) ∧ R (Itt K a) H1) ∨ (∃ z, x = .str z ∧ R (Its z) H1)
theorem pi_any {X : Cx} (K : PySem.W.Frag) {tg e : Expr} {te : TE} (he : PE X e te) (h : X.K = K := by rfl) : PI X tg e (iAny K te) := by
  subst h
  constructor
  intro pins s σ H R I h
  refine thn (he.run pins s σ H _ I h) ?_
  rintro v s1 ⟨x, H1, I1, r1, ⟨a, rfl, ⟨xs, hq⟩, q⟩ | ⟨a, rfl, ⟨xs, hq⟩, q⟩ | ⟨z, rfl, q⟩⟩
  · cases r1
    obtain ⟨its, rv, p, hz⟩ := I1.list hq
    refine wpAny_pyIter_list p.isList ⟨s1.heap.objs.size, [s1.heap.objs.size], _, _, H1, rfl, ?_, turn_list a _, ⟨_, Heap.get?_push_size _ rfl, rfl, rfl⟩, fun b hb => ?_, q⟩
    · exact I1.kept (t' := s1.toks) fun b o e => Heap.get?_push_of_some _ e
    · rw [List.mem_singleton.mp hb]
      exact I1.fpOk (Nat.le_refl _) (I1.hok.fresh (Nat.le_refl _))
  · cases r1
    obtain ⟨its, rv, p, hz⟩ := I1.tuple hq
    have p2 : s1.heap.IsTuple a its.toArray := p
    refine wpAny_pyIter_tuple p2 ⟨s1.heap.objs.size, [s1.heap.objs.size], _, _, H1, rfl, ?_, turn_tuple a _, ⟨_, Heap.get?_push_size _ rfl, rfl, rfl⟩, fun b hb => ?_, q⟩
    · exact I1.kept (t' := s1.toks) fun b o e => Heap.get?_push_of_some _ e
    · rw [List.mem_singleton.mp hb]
      exact I1.fpOk (Nat.le_refl _) (I1.hok.fresh (Nat.le_refl _))
  · obtain ⟨t, rfl⟩ := r1
    by_cases ha : z.cps.all (· < 128) = true
    · exact wpAny_pyIter_ascii ha (pi_one (tk := s1.toks) I1 _ (turn_str _ z t _ (.inl rfl)) ⟨_, Heap.get?_push_size _ rfl, rfl, rfl⟩ q)
    · exact wpAny_pyIter_wide (by simpa using ha) (pi_one (tk := s1.toks) I1 _ (turn_str _ z t _ (.inr rfl)) ⟨_, Heap.get?_push_size _ rfl, rfl, rfl⟩ q)

/-! ### a def that may be called by its name -/
structure Cal (P : Program) (w : World) (K : PySem.W.Frag) (mg : Str → Option Value) (base : Heap) (k : Nat) (x : Str) (sp : Sp) : Prop where
  ex : ∃ (f : Addr) (fd : FuncData) (ps : List Str), FnOk P w K mg base L2.CX0 k f fd ps sp ∧ mg x = some (.ref f) ∧ PySem.W.keepIn K (.ref f) = true ∧ Binds K fd ps []
section
variable {X : Cx} {k j : Nat} {x : Str} {sp : Sp} {p pos : Pos} {e : Expr} {es : List Expr} {t : TA}
theorem pe_cA (c : Cal X.prog X.w X.K X.mg X.base k x sp) (hr : Room j X.A) (hk : k ≤ j) (hg : Gl X x) (ha : PA X (e :: es) t)
    (hdb : (x == ("__debug__" : Str)) = false := by decide) (he : starEach (e :: es) X.env = (false, eval e X.env) :: starEach es X.env := by rfl) (hpl : (backTo pos (starEach es X.env)).any (·.1) = false := by rfl) :
    PE X (.Call (.Name x p) (e :: es) [] pos) (tCall sp [] L2.E0 t) := by
  obtain ⟨f, fd, ps, F, hm, kp, b⟩ := c.ex
  exact pe_call F (hr.mono hk) hg hm kp b .nil L2.pass0 ha hdb he hpl
end
section
variable {P : Program} {w : World} {K : PySem.W.Frag} {mg : Str → Option Value} {base : Heap}
/-- what the head tells of one def -/
structure At (K : PySem.W.Frag) (mg : Str → Option Value) (x : Str) (st : Stmt) : Prop where
  ex : ∃ (f : Addr) (fd : FuncData), FunD K x x (defArgs st) (defBody st) (defScope st) [] [] f fd ∧ mg x = some (.ref f)
theorem fnok_of {x : Str} {st : Stmt} {f : Addr} {fd : FuncData} {N ps : List Str} {k : Nat} {sp : Sp} (F : FunD K x x (defArgs st) (defBody st) (defScope st) [] [] f fd) (S : FnScope N ps (defScope st)) (len : ∀ vs H Q E, sp vs H Q E → vs.length = ps.length)
    (hbody : ∀ (cdv : Value) (A : Around) (outer : List Env) (s : Shared) (H : Hp) (vs : List V) (Q : VK) (E : XK), Room k (A.deeper (envOfC x (defScope st) s.heap.objs.size f cdv)) → sp vs H Q E →
      ∃ t, PSs (cxOf L2.CX0 P w K mg base N x (defScope st) f cdv A outer s H E).nox (defBody st) t ∧ t { nx := fun _ H' => Q .non H', rt := Q } (start N vs) H) : FnOk P w K mg base L2.CX0 (k + 1) f fd ps sp := by
  refine F.ok S len fun cdv A outer s H vs Q E hr hsp => ?_
  obtain ⟨t, h, q⟩ := hbody cdv A outer s H vs Q E hr hsp
  exact ⟨t, h.nox, q⟩
theorem cal_of {x : Str} {st : Stmt} {N ps : List Str} {k : Nat} {sp : Sp} (F : At K mg x st) (S : FnScope N ps (defScope st)) (len : ∀ vs H Q E, sp vs H Q E → vs.length = ps.length)
    (hb : ∀ (kV doc pm : Value) (an : Option Addr) (cdv ct : Value) (us : List Value), us.length = ps.length → bindArgs (PySem.W.fnOf x x (defArgs st) (defBody st) (defScope st) .none kV doc pm an cdv ct) ⟨us, []⟩ = pure (ps.zip us))
    (hbody : ∀ (f : Addr) (cdv : Value) (A : Around) (outer : List Env) (s : Shared) (H : Hp) (vs : List V) (Q : VK) (E : XK), Room k (A.deeper (envOfC x (defScope st) s.heap.objs.size f cdv)) → sp vs H Q E →
      ∃ t, PSs (cxOf L2.CX0 P w K mg base N x (defScope st) f cdv A outer s H E).nox (defBody st) t ∧ t { nx := fun _ H' => Q .non H', rt := Q } (start N vs) H) : Cal P w K mg base (k + 1) x sp := by
  obtain ⟨f, fd, F, m⟩ := F.ex
  refine ⟨f, fd, ps, F.ok S len fun cdv A outer s H vs Q E hr hsp => ?_, m, F.kp, F.bindsN hb⟩
  obtain ⟨t, h, q⟩ := hbody f cdv A outer s H vs Q E hr hsp
  exact ⟨t, h.nox, q⟩
end

/-! ### defs with defaults -/
structure AtD (K : PySem.W.Frag) (mg : Str → Option Value) (x : Str) (st : Stmt) (dvs : List V) (kws : List (Str × V)) : Prop where
  ex : ∃ (f : Addr) (fd : FuncData), FunD K x x (defArgs st) (defBody st) (defScope st) dvs kws f fd ∧ mg x = some (.ref f)
structure CalD (P : Program) (w : World) (K : PySem.W.Frag) (mg : Str → Option Value) (base : Heap) (k : Nat) (x : Str) (sp : Sp) (dvs : List V) : Prop where
  ex : ∃ (f : Addr) (fd : FuncData) (ps : List Str) (ds : List Value), FnOk P w K mg base L2.CX0 k f fd ps sp ∧ mg x = some (.ref f) ∧ PySem.W.keepIn K (.ref f) = true ∧ Binds K fd ps ds ∧ Vals dvs ds
section
variable {X : Cx} {k j : Nat} {x : Str} {sp : Sp} {dvs : List V} {p pos : Pos} {e : Expr} {es : List Expr} {t : TA}
theorem pe_cD (c : CalD X.prog X.w X.K X.mg X.base k x sp dvs) (hr : Room j X.A) (hk : k ≤ j) (hg : Gl X x) (ha : PA X (e :: es) t)
    (hdb : (x == ("__debug__" : Str)) = false := by decide) (he : starEach (e :: es) X.env = (false, eval e X.env) :: starEach es X.env := by rfl) (hpl : (backTo pos (starEach es X.env)).any (·.1) = false := by rfl) :
    PE X (.Call (.Name x p) (e :: es) [] pos) (tCall sp dvs L2.E0 t) := by
  obtain ⟨f, fd, ps, ds, F, hm, kp, b, hd⟩ := c.ex
  exact pe_call F (hr.mono hk) hg hm kp b hd L2.pass0 ha hdb he hpl
end
section
variable {P : Program} {w : World} {K : PySem.W.Frag} {mg : Str → Option Value} {base : Heap}
theorem calD_of {x : Str} {st : Stmt} {N ps : List Str} {k : Nat} {sp : Sp} {dvs : List V} (F : AtD K mg x st dvs []) (S : FnScope N ps (defScope st)) (len : ∀ vs H Q E, sp vs H Q E → vs.length = ps.length)
    (hbody : ∀ (f : Addr) (cdv : Value) (A : Around) (outer : List Env) (s : Shared) (H : Hp) (vs : List V) (Q : VK) (E : XK), Room k (A.deeper (envOfC x (defScope st) s.heap.objs.size f cdv)) → sp vs H Q E →
      ∃ t, PSs (cxOf L2.CX0 P w K mg base N x (defScope st) f cdv A outer s H E).nox (defBody st) t ∧ t { nx := fun _ H' => Q .non H', rt := Q } (start N vs) H) (n j : Nat) (hd : dvs ≠ []) (hn : n + (dvs.length - j) = ps.length)
    (hb : ∀ (T : Addr) (kV doc pm : Value) (an : Option Addr) (cdv ct : Value) (us its : List Value), us.length = n → its.length = dvs.length →
      ∃ k, bindArgs (PySem.W.fnOf x x (defArgs st) (defBody st) (defScope st) (.ref T) kV doc pm an cdv ct) ⟨us, []⟩ = seqItems? (.ref T) >>= k ∧ k (some its.toArray) = pure (ps.zip (us ++ its.drop j))) : CalD P w K mg base (k + 1) x sp (dvs.drop j) := by
  obtain ⟨f, fd, F, m⟩ := F.ex
  obtain ⟨ds, hv, b⟩ := F.binds1 n j hd hn hb
  refine ⟨f, fd, ps, ds, F.ok S len fun cdv A outer s H vs Q E hr hsp => ?_, m, F.kp, b, hv⟩
  obtain ⟨t, h, q⟩ := hbody f cdv A outer s H vs Q E hr hsp
  exact ⟨t, h.nox, q⟩
end

/-! ### readings, step by step -/
section
variable {K : PySem.W.Frag} {σ : L2.St} {H : Hp} {Q : VK} {QB : Bool → Hp → Prop} {QA : List V → Hp → Prop} {v x y : V} {i j : Nat} {ta tb te tc : TE} {tl : TA} {r r' : R2} {D : Ends} {t u c : TT} {s1 s2 : TS} {a : Addr}
theorem r_var (h : σ[i]? = some (some v)) (q : Q v H) : tVar i σ H Q := ⟨v, h, q⟩
theorem r_c (q : Q v H) : tC v σ H Q := q
theorem r_op (q : ta σ H fun x H1 => tb σ H1 fun y H2 => r x y H2 Q) : tOp r ta tb σ H Q := q
theorem r_un {ru : V → Hp → VK → Prop} (q : ta σ H fun x H1 => ru x H1 Q) : tUn ru ta σ H Q := q
theorem r_nil (q : QA [] H) : tNil σ H QA := q
theorem r_cons (q : te σ H fun x H1 => tl σ H1 fun xs H2 => QA (x :: xs) H2) : tCons te tl σ H QA := q
theorem r_lst (q : tl σ H fun xs H1 => xs.length ≤ sizeLine ∧ ∀ p, H1 p = none → Q (.ref p) (upd H1 p (.lst xs))) : tLst tl σ H Q := q
theorem r_tup (q : tl σ H fun xs H1 => xs.length ≤ sizeLine ∧ ∀ p, H1 p = none → Q (.ref p) (upd H1 p (.tup xs))) : tTup tl σ H Q := q
theorem r_cb {rc : List V → Hp → VK → Prop} (q : tl σ H fun vs H1 => rc vs H1 Q) : tCB rc tl σ H Q := q
theorem r_call {sp : Sp} {dvs : List V} {E : XK} (q : tl σ H fun vs H1 => sp (vs ++ dvs) H1 Q E) : tCall sp dvs E tl σ H Q := q
theorem r_test (q : te σ H fun x H' => ∃ k, x = .bl k ∧ QB k H') : tTest te σ H QB := q
theorem r_B (q : te σ H fun x H' => ∃ k, x = .bl k ∧ QB k H') : tB te σ H QB := q
theorem r_bl {b : Bool} {QC : Bool → Prop} (q : QC b) : ∃ k, V.bl b = .bl k ∧ QC k := ⟨b, rfl, q⟩
theorem r_and (q : t σ H fun c H1 => if c = true then u σ H1 QB else QB false H1) : tAnd t u σ H QB := q
theorem r_or (q : t σ H fun c H1 => if c = true then QB true H1 else u σ H1 QB) : tOr t u σ H QB := q
theorem r_not (q : t σ H fun c H1 => QB (!c) H1) : tNot t σ H QB := q
theorem r_andV (q : ta σ H fun x H1 => ∃ c, x = .bl c ∧ if c = true then tb σ H1 Q else Q (.bl false) H1) : tAndV ta tb σ H Q := q
theorem r_orV (q : ta σ H fun x H1 => ∃ c, x = .bl c ∧ if c = true then Q (.bl true) H1 else tb σ H1 Q) : tOrV ta tb σ H Q := q
theorem r_notV (q : ta σ H fun x H1 => ∃ c, x = .bl c ∧ Q (.bl (!c)) H1) : tNotV ta σ H Q := q
theorem r_if (q : t σ H fun c H1 => if c = true then ta σ H1 Q else tb σ H1 Q) : tIf t ta tb σ H Q := q
theorem r_chain (q : ta σ H fun x H1 => tb σ H1 fun y H2 => r x y H2 fun z H3 => ∃ k, z = .bl k ∧ (if k = true then tc σ H3 fun w' H4 => r' y w' H4 Q else Q (.bl false) H3)) : tChain r r' ta tb tc σ H Q := q
theorem r_sl {rs : V → Option Int → Option Int → Hp → VK → Prop} {tlo thi : TO} (q : te σ H fun x H1 => tlo σ H1 fun l H2 => thi σ H2 fun u H3 => rs x l u H3 Q) : tSl rs te tlo thi σ H Q := q
theorem r_nopart {QO : Option Int → Hp → Prop} (q : QO none H) : tNoPart σ H QO := q
theorem r_part {QO : Option Int → Hp → Prop} (q : te σ H fun x H1 => ∃ i, x = .int i ∧ QO (some i) H1) : tPart te σ H QO := q
theorem r_m1 {rm : V → List V → Hp → VK → Prop} (q : ta σ H fun x H1 => (∃ a, x = .str a) ∧ tb σ H1 fun y H2 => rm x [y] H2 Q) : tM1 rm ta tb σ H Q := q
theorem r_bm {T : String} {rm : V → List V → Hp → VK → Prop} (q : ta σ H fun x H1 => tyV K T x H1 ∧ tl σ H1 fun xs H2 => rm x xs H2 Q) : tBM K T rm ta tl σ H Q := q
theorem r_next (q : D.nx σ H) : tNext D σ H := q
theorem r_seq (q : s1 { D with nx := s2 D } σ H) : tSeq s1 s2 D σ H := q
theorem r_asg (q : te σ H fun x H1 => D.nx (σ.set i (some x)) H1) : tAsg te (gName i) D σ H := q
theorem r_asgS {rs : V → V → V → Hp → (Hp → Prop) → Prop} (q : te σ H fun x H1 => ta σ H1 fun o H2 => tb σ H2 fun ix H3 => rs o ix x H3 fun H4 => D.nx σ H4) : tAsg te (gSub ta tb rs) D σ H := q
theorem r_par (q : tl σ H fun vs H1 => ∃ v w, vs = [v, w] ∧ D.nx ((σ.set i (some v)).set j (some w)) H1) : tPar i j tl D σ H := q
theorem r_ret (q : te σ H D.rt) : tRet te D σ H := q
theorem r_drop (q : te σ H fun _ H1 => D.nx σ H1) : tDrop te D σ H := q
theorem r_ifS (q : c σ H fun b H1 => if b = true then s1 D σ H1 else s2 D σ H1) : tIfS c s1 s2 D σ H := q
theorem r_brk (q : D.bk σ H) : tBreak D σ H := q
theorem r_cont (q : D.ct σ H) : tCont D σ H := q
/-! values -/
theorem r_I0 {g : Int → Int → V} {i j : Int} (q : Q (g i j) H) : rI0 g (.int i) (.int j) H Q := ⟨i, j, rfl, rfl, q⟩
theorem r_I {C : Int → Int → Prop} {g : Int → Int → V} {i j : Int} (c : C i j) (q : Q (g i j) H) : rI C g (.int i) (.int j) H Q := ⟨i, j, rfl, rfl, c, q⟩
theorem r_U {g : Int → V} {i : Int} (q : Q (g i) H) : rU g (.int i) H Q := ⟨i, rfl, q⟩
theorem r_addI {i j : Int} (q : Q (.int (i + j)) H) : rAddA K (.int i) (.int j) H Q := .inl ⟨i, j, rfl, rfl, q⟩
theorem r_addS {i j : Str} (h : i.length + j.length ≤ sizeLine) (q : Q (.str (i ++ j)) H) : rAddA K (.str i) (.str j) H Q := .inr (.inl ⟨i, j, rfl, rfl, h, q⟩)
theorem r_addL {p q : Addr} {xs ys : List V} (h1 : H p = some (.lst xs)) (h2 : H q = some (.lst ys)) (hl : xs.length + ys.length ≤ sizeLine) (k : ∀ l, H l = none → Q (.ref l) (upd H l (.lst (xs ++ ys)))) : rAddA K (.ref p) (.ref q) H Q :=
  .inr (.inr (.inl ⟨p, q, xs, ys, rfl, rfl, h1, h2, hl, k⟩))
theorem r_mulS {z : Str} {n : Int} (c : MulOk z n) (q : Q (.str (Txt.mul z n)) H) : rMulA (.str z) (.int n) H Q := .inr (.inr ⟨z, n, rfl, rfl, c, q⟩)
theorem r_mulL {p : Addr} {n : Int} {xs : List V} (h : H p = some (.lst xs)) (h1 : 0 ≤ n) (h2 : n < 2 ^ 62) (h3 : xs.length * n.toNat ≤ sizeLine) (q : ∀ l, H l = none → Q (.ref l) (upd H l (.lst (List.replicate n.toNat xs).flatten))) : rMulA (.ref p) (.int n) H Q :=
  .inr (.inl ⟨p, n, xs, rfl, rfl, h, by omega, by omega, h3, q⟩)
theorem r_mulI {i j : Int} (c : CMul i j) (q : Q (.int (i * j)) H) : rMulA (.int i) (.int j) H Q := .inl ⟨i, j, rfl, rfl, c, q⟩
theorem r_lenS {z : Str} (h : z.length ≤ sizeLine) (q : Q (.int (z.length : Nat)) H) : rLenA K [.str z] H Q := ⟨_, _, rfl, ⟨h, rfl⟩, q⟩
theorem r_lenL {p : Addr} {xs : List V} (h : SqL K H p xs) (q : Q (.int (xs.length : Nat)) H) : rLenA K [.ref p] H Q := ⟨_, _, rfl, .inl ⟨_, h, rfl⟩, q⟩
theorem r_lenT {p : Addr} {xs : List V} (h : SqT K H p xs) (q : Q (.int (xs.length : Nat)) H) : rLenA K [.ref p] H Q := ⟨_, _, rfl, .inr ⟨_, h, rfl⟩, q⟩
theorem r_abs {i : Int} (q : Q (.int (if i < 0 then -i else i)) H) : rAbsA [.int i] H Q := ⟨i, rfl, q⟩
theorem r_intI {i : Int} (q : Q (.int i) H) : rIntA [.int i] H Q := .inl ⟨i, rfl, q⟩
theorem r_max2 {i j : Int} (q : Q (.int (if j > i then j else i)) H) : rMax2A [.int i, .int j] H Q := ⟨i, j, rfl, q⟩
theorem r_min2 {i j : Int} (q : Q (.int (if j < i then j else i)) H) : rMin2A [.int i, .int j] H Q := ⟨i, j, rfl, q⟩
theorem r_eqS (h : scal x y = true) (q : Q (.bl (decide (x = y))) H) : rEqA K x y H Q := .inl ⟨h, q⟩
theorem r_neS (h : scal x y = true) (q : Q (.bl (!decide (x = y))) H) : rNeA K x y H Q := .inl ⟨h, q⟩
theorem r_eqD {d e : PyData} (h1 : Dp K H x d) (h2 : Dp K H y e) (s1 : SeqAt.shaped d = true) (s2 : SeqAt.shaped e = true) (q : Q (.bl (PyData.eqv d e)) H) : rEqA K x y H Q := .inr ⟨d, e, h1, h2, s1, s2, q⟩
theorem r_neD {d e : PyData} (h1 : Dp K H x d) (h2 : Dp K H y e) (s1 : SeqAt.shaped d = true) (s2 : SeqAt.shaped e = true) (q : Q (.bl (!PyData.eqv d e)) H) : rNeA K x y H Q := .inr ⟨d, e, h1, h2, s1, s2, q⟩
theorem r_ltI {i j : Int} (q : Q (.bl (decide (i < j))) H) : rLtA (.int i) (.int j) H Q := .inl ⟨i, j, rfl, rfl, q⟩
theorem r_leI {i j : Int} (q : Q (.bl (decide (i ≤ j))) H) : rLeA (.int i) (.int j) H Q := ⟨i, j, rfl, rfl, q⟩
theorem r_gtI {i j : Int} (q : Q (.bl (decide (j < i))) H) : rGtA (.int i) (.int j) H Q := ⟨i, j, rfl, rfl, q⟩
theorem r_geI {i j : Int} (q : Q (.bl (decide (j ≤ i))) H) : rGeA (.int i) (.int j) H Q := ⟨i, j, rfl, rfl, q⟩
theorem r_isN (q : Q (.bl (decide (x = .non))) H) : rIsA x .non H Q := .inl ⟨rfl, q⟩
theorem r_isN_non (q : Q (.bl true) H) : rIsA .non .non H Q := .inl ⟨rfl, q⟩
theorem r_isnotN_non (q : Q (.bl false) H) : rIsNotA .non .non H Q := .inl ⟨rfl, q⟩
theorem r_isN_int {i : Int} (q : Q (.bl false) H) : rIsA (.int i) .non H Q := .inl ⟨rfl, q⟩
theorem r_isnotN_int {i : Int} (q : Q (.bl true) H) : rIsNotA (.int i) .non H Q := .inl ⟨rfl, q⟩
theorem r_isN_str {z : Str} (q : Q (.bl false) H) : rIsA (.str z) .non H Q := .inl ⟨rfl, q⟩
theorem r_isnotN_str {z : Str} (q : Q (.bl true) H) : rIsNotA (.str z) .non H Q := .inl ⟨rfl, q⟩
theorem r_isN_bl {b : Bool} (q : Q (.bl false) H) : rIsA (.bl b) .non H Q := .inl ⟨rfl, q⟩
theorem r_isnotN_bl {b : Bool} (q : Q (.bl true) H) : rIsNotA (.bl b) .non H Q := .inl ⟨rfl, q⟩
theorem r_isN_ref {p : Addr} (q : Q (.bl false) H) : rIsA (.ref p) .non H Q := .inl ⟨rfl, q⟩
theorem r_isnotN_ref {p : Addr} (q : Q (.bl true) H) : rIsNotA (.ref p) .non H Q := .inl ⟨rfl, q⟩
theorem r_isB {a b : Bool} (q : Q (.bl (decide (a = b))) H) : rIsA (.bl a) (.bl b) H Q := .inr ⟨a, b, rfl, rfl, q⟩
theorem r_isnotN (q : Q (.bl (!decide (x = .non))) H) : rIsNotA x .non H Q := .inl ⟨rfl, q⟩
theorem r_isnotB {a b : Bool} (q : Q (.bl (!decide (a = b))) H) : rIsNotA (.bl a) (.bl b) H Q := .inr ⟨a, b, rfl, rfl, q⟩
theorem r_inS {c : Nat} {z : Str} (q : Q (.bl (decide (c ∈ z.cps.toList))) H) : rInA K (.str ⟨#[c]⟩) (.str z) H Q := .inl ⟨c, z, rfl, rfl, q⟩
theorem r_ixL {p : Addr} {xs : List V} {i : Int} (h : SqL K H p xs) (ha : atI xs i = some v) (q : Q v H) : rIx K (.ref p) (.int i) H Q := .inl ⟨p, xs, i, v, rfl, rfl, h, ha, q⟩
theorem r_ixT {p : Addr} {xs : List V} {i : Int} (h : SqT K H p xs) (ha : atI xs i = some v) (q : Q v H) : rIx K (.ref p) (.int i) H Q := .inr (.inl ⟨p, xs, i, v, rfl, rfl, h, ha, q⟩)
theorem r_ixS {z : Str} {i : Int} {c : Nat} (h : z.length ≤ sizeLine) (ha : atI z.cps.toList i = some c) (q : Q (.str ⟨#[c]⟩) H) : rIx K (.str z) (.int i) H Q := .inr (.inr ⟨z, i, c, rfl, rfl, h, ha, q⟩)
theorem r_setL {p : Addr} {xs : List V} {k : Int} {j : Nat} {QH : Hp → Prop} (h : H p = some (.lst xs)) (hj : ixN xs.length k = some j) (q : QH (upd H p (.lst (xs.set j v)))) : rSetL (.ref p) (.int k) v H QH := ⟨p, xs, k, j, rfl, rfl, h, hj, q⟩
theorem r_intO {i : Int} {QC : Int → Prop} (q : QC i) : ∃ k, V.int i = .int k ∧ QC k := ⟨i, rfl, q⟩
theorem r_two {v w : V} {QC : V → V → Prop} (q : QC v w) : ∃ v1 w1, [v, w] = [v1, w1] ∧ QC v1 w1 := ⟨v, w, rfl, q⟩
theorem r_slS {z : Str} {lo hi : Option Int} (h : z.length ≤ sizeLine) (q : Q (.str (cutS z lo hi)) H) : rSlA3 K (.str z) lo hi H Q := .inl ⟨z, rfl, h, q⟩
theorem r_slL {p : Addr} {xs : List V} {lo hi : Option Int} (h : SqL K H p xs) (q : ∀ l, H l = none → Q (.ref l) (upd H l (.lst (cutV xs lo hi)))) : rSlA3 K (.ref p) lo hi H Q := .inr ⟨p, xs, rfl, h, q⟩
theorem r_app {p : Addr} {xs : List V} (h : H p = some (.lst xs)) (hl : xs.length < sizeLine) (q : Q .non (upd H p (.lst (xs ++ [y])))) : rAppend (.ref p) [y] H Q := ⟨p, xs, y, rfl, rfl, h, hl, q⟩
theorem r_tyL {p : Addr} {xs : List V} {R : Prop} (h : SqL K H p xs) (q : R) : tyV K "list" (.ref p) H ∧ R := ⟨.inl ⟨rfl, _, h⟩, q⟩
end

theorem iteD {p : Prop} {dp : Decidable p} {A B : Prop} (h1 : p → A) (h2 : ¬ p → B) : if decide p = true then A else B := by
  by_cases h : p
  · rw [if_pos (decide_eq_true h)]
    exact h1 h
  · rw [if_neg (by simp [h])]
    exact h2 h
theorem iteND {p : Prop} {dp : Decidable p} {A B : Prop} (h1 : ¬ p → A) (h2 : p → B) : if (!decide p) = true then A else B := by
  by_cases h : p
  · rw [if_neg (by simp [h])]
    exact h2 h
  · rw [if_pos (by simp [h])]
    exact h1 h
theorem iteB {c : Bool} {A B : Prop} (h1 : c = true → A) (h2 : c = false → B) : if c = true then A else B := by
  cases c with
  | true => rw [if_pos rfl]; exact h1 rfl
  | false => rw [if_neg Bool.false_ne_true]; exact h2 rfl
theorem iteNB {c : Bool} {A B : Prop} (h1 : c = false → A) (h2 : c = true → B) : if (!c) = true then A else B := by
  cases c with
  | true => exact h2 rfl
  | false => exact h1 rfl
/-! ### loops -/
section
variable {K : PySem.W.Frag} {σ : L2.St} {H : Hp} {D : Ends} {wi : TI} {g : TG} {tb : TS} {ta : TA} {te : TE}
theorem r_for (q : wi σ H fun J H1 => ∃ W : Nat → Nat → L2.St → Hp → Prop, (∃ m, W 0 m σ H1) ∧ ∀ i m σ H, W i m σ H →
      (J.stop i H ∧ D.nx σ H) ∨ (J.go i H ∧ ∃ N : L2.St → Hp → Prop, (∀ σ' H', N σ' H' → ∃ m', m' < m ∧ W (i + 1) m' σ' H') ∧ ∀ x H', J.yld i H x H' → g x σ H' fun σ2 H2 => tb { D with nx := N, ct := N, bk := D.nx } σ2 H2)) : tFor wi g tb D σ H := q
theorem r_rng1 {R : It → Hp → Prop} (q : ta σ H fun vs H1 => ∃ j : Int, vs = [.int j] ∧ -(2 ^ 62) ≤ j ∧ j < 2 ^ 62 ∧ R (Itr 0 j.toNat) H1) : iRng1 ta σ H R := q
theorem r_iAny {R : It → Hp → Prop} (q : te σ H fun x H1 => (∃ a, x = .ref a ∧ (∃ xs, SqL K H1 a xs) ∧ R (Itl K a) H1) ∨ (∃ a, x = .ref a ∧ (∃ xs, SqT K H1 a xs) ∧ R (Itt K a) H1) ∨ (∃ z, x = .str z ∧ R (Its z) H1)) : iAny K te σ H R := q
theorem r_iList {R : It → Hp → Prop} (q : te σ H fun x H1 => ∃ a, x = .ref a ∧ (∃ xs, SqL K H1 a xs) ∧ R (Itl K a) H1) : iList K te σ H R := q
theorem r_lc {tt : TT} {vs : List Nat} {Q : VK} (q : wi σ H fun J H1 => ∀ D, H1 D = none → ∃ W : Nat → Nat → Hp → Prop, (∃ m, W 0 m (upd H1 D (.lst []))) ∧ ∀ i m H, W i m H →
  (J.stop i H ∧ Q (.ref D) H) ∨ (J.go i H ∧ ∃ Nx : Hp → Prop, (∀ H', Nx H' → ∃ m', m' < m ∧ W (i + 1) m' H') ∧ ∀ x H', J.yld i H x H' → g x (wipe σ vs) H' fun σ2 H2 => wipe σ2 vs = wipe σ vs ∧ tt σ2 H2 fun b H3 =>
    if b = true then te σ2 H3 fun y H4 => ∃ acc, H4 D = some (.lst acc) ∧ acc.length < sizeLine ∧ Nx (upd H4 D (.lst (acc ++ [y]))) else Nx H3)) : tLc wi g tt te vs σ H Q := q
theorem r_yes {QB : Bool → Hp → Prop} (q : QB true H) : tYes σ H QB := q
theorem r_gN {i : Nat} {v : V} {R : L2.St → Hp → Prop} (q : R (σ.set i (some v)) H) : gName i v σ H R := q
end

/-! ### a comprehension whose elements only read (and lay new things) -/
theorem lc_pure {J : It} {n : Nat} {G : Hp → Prop} {Y : Nat → Hp → V → Hp → Prop} (w : L2.Walk J n G Y) {te : TE} {j : Nat} {vs : List Nat} {σ : L2.St} {H1 : Hp} {Qd : Hp → Prop} {D : Addr} (hD : H1 D = none) (it f : Nat → V)
    (hy : ∀ i H x H', i < n → G H → Y i H x H' → H' = H ∧ x = it i) (hG : ∀ H', Evl.Ex H1 H' → G H') (hw : ∀ x, wipe ((wipe σ vs).set j (some x)) vs = wipe σ vs) (hn : n ≤ 1000000)
    (hel : ∀ i, i < n → ∀ H', Evl.Ex H1 H' → ∀ Q' : VK, (∀ H'', Evl.Ex H' H'' → Q' (f i) H'') → te ((wipe σ vs).set j (some (it i))) H' Q')
    (q : ∀ H', Evl.Ex H1 H' → H' D = some (.lst ((List.range n).map f)) → Qd H') :
    ∃ W : Nat → Nat → Hp → Prop, (∃ m, W 0 m (upd H1 D (.lst []))) ∧ ∀ i m H, W i m H →
      (J.stop i H ∧ Qd H) ∨ (J.go i H ∧ ∃ Nx : Hp → Prop, (∀ H', Nx H' → ∃ m', m' < m ∧ W (i + 1) m' H') ∧ ∀ x H', J.yld i H x H' → gName j x (wipe σ vs) H' fun σ2 H2 => wipe σ2 vs = wipe σ vs ∧ tYes σ2 H2 fun b H3 =>
        if b = true then te σ2 H3 fun y H4 => ∃ acc, H4 D = some (.lst acc) ∧ acc.length < sizeLine ∧ Nx (upd H4 D (.lst (acc ++ [y]))) else Nx H3) := by
  refine lc_it w (fun i H' => Evl.Ex H1 H' ∧ H' D = some (.lst ((List.range i).map f))) ⟨Evl.Ex.new hD, upd_same⟩ (fun i H' _ p => hG H' p.1) ?_ (fun H' p => q H' p.1 p.2)
  rintro i x H H' hi ⟨e1, e2⟩ hyy
  obtain ⟨rfl, rfl⟩ := hy i H x H' hi (hG H e1) hyy
  refine ⟨hw _, r_yes (iteT ?_)⟩
  refine hel i hi _ e1 _ fun H2 e3 => ⟨_, e3 _ _ e2, ?_, Evl.Ex.mut (e1.trans e3) hD, ?_⟩
  · rw [List.length_map, List.length_range, sizeLine_eq]
    omega
  · rw [upd_same, List.range_succ, List.map_append]
    rfl
/-- over a text -/
theorem lc_str {z : Str} {te : TE} {j : Nat} {vs : List Nat} {σ : L2.St} {H1 : Hp} {Qd : Hp → Prop} {D : Addr} (hD : H1 D = none) (f : Nat → V) (hw : ∀ x, wipe ((wipe σ vs).set j (some x)) vs = wipe σ vs) (hn : z.length ≤ 1000000)
    (hel : ∀ c, c ∈ z.cps.toList → ∀ H', Evl.Ex H1 H' → ∀ Q' : VK, (∀ H'', Evl.Ex H' H'' → Q' (f c) H'') → te ((wipe σ vs).set j (some (.str ⟨#[c]⟩))) H' Q')
    (q : ∀ H', Evl.Ex H1 H' → H' D = some (.lst (z.cps.toList.map f)) → Qd H') :
    ∃ W : Nat → Nat → Hp → Prop, (∃ m, W 0 m (upd H1 D (.lst []))) ∧ ∀ i m H, W i m H →
      ((Its z).stop i H ∧ Qd H) ∨ ((Its z).go i H ∧ ∃ Nx : Hp → Prop, (∀ H', Nx H' → ∃ m', m' < m ∧ W (i + 1) m' H') ∧ ∀ x H', (Its z).yld i H x H' → gName j x (wipe σ vs) H' fun σ2 H2 => wipe σ2 vs = wipe σ vs ∧ tYes σ2 H2 fun b H3 =>
        if b = true then te σ2 H3 fun y H4 => ∃ acc, H4 D = some (.lst acc) ∧ acc.length < sizeLine ∧ Nx (upd H4 D (.lst (acc ++ [y]))) else Nx H3) := by
  have sz : z.cps.size = z.length := rfl
  have key : ∀ i, i < z.cps.size → z.cps.getD i 0 ∈ z.cps.toList := fun i hi => by
    have : z.cps.getD i 0 = z.cps[i] := by simp [Array.getD, hi]
    rw [this]
    exact Array.getElem_mem_toList hi
  refine lc_pure walk_str hD (fun i => .str ⟨#[z.cps.getD i 0]⟩) (fun i => f (z.cps.getD i 0)) ?_ (fun _ _ => trivial) hw (by omega) (fun i hi => hel _ (key i hi)) (fun H' e1 e3 => q H' e1 ?_)
  · rintro i H x H' hi _ ⟨e, c, hc, rfl⟩
    refine ⟨e, ?_⟩
    simp [Array.getD, hi] at hc ⊢
    exact hc.symm
  · rw [e3]
    congr 2
    refine List.ext_getElem (by simp) fun i h1 h2 => ?_
    simp at h1
    simp [Array.getD, h1]
/-- over a list or tuple -/
theorem lc_seq {K : PySem.W.Frag} {a : Addr} {xs : List V} {te : TE} {j : Nat} {vs : List Nat} {σ : L2.St} {H1 : Hp} {Qd : Hp → Prop} {D : Addr} (hD : H1 D = none) (f : V → V) (hs : SqL K H1 a xs) (hw : ∀ x, wipe ((wipe σ vs).set j (some x)) vs = wipe σ vs) (hn : xs.length ≤ 1000000)
    (hel : ∀ v, v ∈ xs → ∀ H', Evl.Ex H1 H' → ∀ Q' : VK, (∀ H'', Evl.Ex H' H'' → Q' (f v) H'') → te ((wipe σ vs).set j (some v)) H' Q')
    (q : ∀ H', Evl.Ex H1 H' → H' D = some (.lst (xs.map f)) → Qd H') :
    ∃ W : Nat → Nat → Hp → Prop, (∃ m, W 0 m (upd H1 D (.lst []))) ∧ ∀ i m H, W i m H →
      ((Itl K a).stop i H ∧ Qd H) ∨ ((Itl K a).go i H ∧ ∃ Nx : Hp → Prop, (∀ H', Nx H' → ∃ m', m' < m ∧ W (i + 1) m' H') ∧ ∀ x H', (Itl K a).yld i H x H' → gName j x (wipe σ vs) H' fun σ2 H2 => wipe σ2 vs = wipe σ vs ∧ tYes σ2 H2 fun b H3 =>
        if b = true then te σ2 H3 fun y H4 => ∃ acc, H4 D = some (.lst acc) ∧ acc.length < sizeLine ∧ Nx (upd H4 D (.lst (acc ++ [y]))) else Nx H3) := by
  have key : ∀ i, i < xs.length → xs.getD i .non ∈ xs := fun i hi => by
    rw [List.getD_eq_getElem?_getD, List.getElem?_eq_getElem hi]
    exact List.getElem_mem hi
  refine lc_pure walk_list hD (fun i => xs.getD i .non) (fun i => f (xs.getD i .non)) ?_ (fun _ e => Evl.ex_l e hs) hw (by omega) (fun i hi => hel _ (key i hi)) (fun H' e1 e3 => q H' e1 ?_)
  · rintro i H x H' hi _ ⟨e, hx⟩
    exact ⟨e, by rw [List.getD_eq_getElem?_getD, hx]; rfl⟩
  · rw [e3]
    congr 2
    refine List.ext_getElem (by simp) fun i h1 h2 => ?_
    simp at h1
    simp [List.getElem?_eq_getElem h1]
theorem lc_tupl {K : PySem.W.Frag} {a : Addr} {xs : List V} {te : TE} {j : Nat} {vs : List Nat} {σ : L2.St} {H1 : Hp} {Qd : Hp → Prop} {D : Addr} (hD : H1 D = none) (f : V → V) (hs : SqT K H1 a xs) (hw : ∀ x, wipe ((wipe σ vs).set j (some x)) vs = wipe σ vs) (hn : xs.length ≤ 1000000)
    (hel : ∀ v, v ∈ xs → ∀ H', Evl.Ex H1 H' → ∀ Q' : VK, (∀ H'', Evl.Ex H' H'' → Q' (f v) H'') → te ((wipe σ vs).set j (some v)) H' Q')
    (q : ∀ H', Evl.Ex H1 H' → H' D = some (.lst (xs.map f)) → Qd H') :
    ∃ W : Nat → Nat → Hp → Prop, (∃ m, W 0 m (upd H1 D (.lst []))) ∧ ∀ i m H, W i m H →
      ((Itt K a).stop i H ∧ Qd H) ∨ ((Itt K a).go i H ∧ ∃ Nx : Hp → Prop, (∀ H', Nx H' → ∃ m', m' < m ∧ W (i + 1) m' H') ∧ ∀ x H', (Itt K a).yld i H x H' → gName j x (wipe σ vs) H' fun σ2 H2 => wipe σ2 vs = wipe σ vs ∧ tYes σ2 H2 fun b H3 =>
        if b = true then te σ2 H3 fun y H4 => ∃ acc, H4 D = some (.lst acc) ∧ acc.length < sizeLine ∧ Nx (upd H4 D (.lst (acc ++ [y]))) else Nx H3) := by
  have key : ∀ i, i < xs.length → xs.getD i .non ∈ xs := fun i hi => by
    rw [List.getD_eq_getElem?_getD, List.getElem?_eq_getElem hi]
    exact List.getElem_mem hi
  refine lc_pure walk_tup hD (fun i => xs.getD i .non) (fun i => f (xs.getD i .non)) ?_ (fun _ e => Evl.ex_t e hs) hw (by omega) (fun i hi => hel _ (key i hi)) (fun H' e1 e3 => q H' e1 ?_)
  · rintro i H x H' hi _ ⟨e, hx⟩
    exact ⟨e, by rw [List.getD_eq_getElem?_getD, hx]; rfl⟩
  · rw [e3]
    congr 2
    refine List.ext_getElem (by simp) fun i h1 h2 => ?_
    simp at h1
    simp [List.getElem?_eq_getElem h1]
theorem r_all {K : PySem.W.Frag} {H : Hp} {Q : VK} {D : Addr} {bs : List Bool} (h : H D = some (.lst (bs.map V.bl))) (q : Q (.bl (bs.all id)) H) : rAll K [.ref D] H Q := ⟨D, bs, rfl, SqL.of h, q⟩
theorem r_any {K : PySem.W.Frag} {H : Hp} {Q : VK} {D : Addr} {bs : List Bool} (h : H D = some (.lst (bs.map V.bl))) (q : Q (.bl (bs.any id)) H) : rAny K [.ref D] H Q := ⟨D, bs, rfl, SqL.of h, q⟩

/-! ### the heap without the bag -/
def hid (b : Addr) (H : Hp) : Hp := fun a => if a = b then none else H a
section
variable {b a p : Addr} {H H' : Hp} {o o' : HO}
theorem hid_of (h : H a = some o) (ne : a ≠ b) : hid b H a = some o := by unfold hid; rw [if_neg ne]; exact h
theorem hid_get (h : hid b H a = some o) : H a = some o := by
  unfold hid at h
  by_cases e : a = b
  · rw [if_pos e] at h; cases h
  · rw [if_neg e] at h; exact h
theorem hid_ne (h : hid b H a = some o) : a ≠ b := by
  intro e
  unfold hid at h
  rw [if_pos e] at h
  cases h
theorem hid_bag : hid b (upd H b o) = hid b H := by
  funext a
  unfold hid
  by_cases e : a = b
  · rw [if_pos e, if_pos e]
  · rw [if_neg e, if_neg e, upd_ne e]
theorem hid_up (h : p ≠ b) : hid b (upd H p o) = upd (hid b H) p o := by
  funext a
  unfold hid
  by_cases e : a = b
  · rw [if_pos e, upd_ne (by rw [e]; exact h.symm), if_pos e]
  · by_cases e2 : a = p
    · rw [if_neg e, e2, upd_same, upd_same]
    · rw [if_neg e, upd_ne e2, upd_ne e2, if_neg e]
theorem hid_ex : Evl.Ex (hid b H) H := fun _ _ h => hid_get h
theorem hid_none (h : H p = none) : hid b H p = none := by
  unfold hid
  by_cases e : p = b
  · rw [if_pos e]
  · rw [if_neg e]; exact h
end
def BagL (n : Nat) (l : List V) : Prop := ∃ x y z : Int, l = [.int x, .int y, .int z] ∧ 0 ≤ y ∧ y ≤ 4294967296 ∧ 0 ≤ z ∧ z ≤ (n : Int)
theorem BagL.mono {n m : Nat} {l : List V} (h : BagL n l) (e : n ≤ m) : BagL m l := by
  obtain ⟨x, y, z, rfl, h1, h2, h3, h4⟩ := h
  exact ⟨x, y, z, rfl, h1, h2, h3, by omega⟩
/-- the bag at b, so many draws at most so far -/
def Bag (b : Addr) (n : Nat) (H : Hp) : Prop := ∃ l, H b = some (.lst l) ∧ BagL n l
structure Drw (b : Addr) (n : Nat) (H H' : Hp) : Prop where
  ex : Evl.Ex (hid b H) (hid b H')
  bag : Bag b n H'
theorem Drw.trans {b : Addr} {n m : Nat} {H H1 H2 : Hp} (x : Drw b n H H1) (y : Drw b m H1 H2) : Drw b m H H2 := ⟨x.ex.trans y.ex, y.bag⟩
theorem Bag.mono {b : Addr} {n m : Nat} {H : Hp} (h : Bag b n H) (e : n ≤ m) : Bag b m H := let ⟨l, h1, h2⟩ := h; ⟨l, h1, h2.mono e⟩
theorem Drw.mono {b : Addr} {n m : Nat} {H H' : Hp} (h : Drw b n H H') (e : n ≤ m) : Drw b m H H' := ⟨h.ex, h.bag.mono e⟩
theorem Bag.refl {b : Addr} {n : Nat} {H : Hp} (h : Bag b n H) : Drw b n H H := ⟨Evl.Ex.refl _, h⟩
/-- a new object -/
theorem Bag.new {b p : Addr} {n : Nat} {H : Hp} {o : HO} (h : Bag b n H) (hp : H p = none) : Drw b n H (upd H p o) ∧ hid b (upd H p o) p = some o := by
  obtain ⟨l, h1, h2⟩ := h
  have ne : p ≠ b := (ne_of_none h1 hp).symm
  refine ⟨⟨?_, l, ?_, h2⟩, ?_⟩
  · rw [hid_up ne]
    exact Evl.Ex.new (hid_none hp)
  · rw [upd_ne ne.symm]; exact h1
  · exact hid_of upd_same ne
/-- an object that is not the bag and that H0 did not know is changed -/
theorem Drw.put {b p : Addr} {n : Nat} {H0 H : Hp} {o : HO} (h : Drw b n H0 H) (hp : hid b H0 p = none) (ne : p ≠ b) : Drw b n H0 (upd H p o) := by
  obtain ⟨l, h1, h2⟩ := h.bag
  refine ⟨?_, l, ?_, h2⟩
  · rw [hid_up ne]
    exact Evl.Ex.mut h.ex hp
  · rw [upd_ne ne.symm]; exact h1
theorem Drw.l {K : PySem.W.Frag} {b a : Addr} {n : Nat} {H H' : Hp} {xs : List V} (h : Drw b n H H') (s : SqL K (hid b H) a xs) : SqL K (hid b H') a xs := Evl.ex_l h.ex s
theorem Drw.t {K : PySem.W.Frag} {b a : Addr} {n : Nat} {H H' : Hp} {xs : List V} (h : Drw b n H H') (s : SqT K (hid b H) a xs) : SqT K (hid b H') a xs := Evl.ex_t h.ex s
def SqA (K : PySem.W.Frag) (H : Hp) (a : Addr) (xs : List V) : Prop := SqL K H a xs ∨ SqT K H a xs
theorem SqA.mono {K : PySem.W.Frag} {H H' : Hp} {a : Addr} {xs : List V} (e : Evl.Ex H H') (h : SqA K H a xs) : SqA K H' a xs := by
  rcases h with h | h
  · exact .inl (Evl.ex_l e h)
  · exact .inr (Evl.ex_t e h)
/-- a word of small letters -/
def Word (m : Nat) (z : Str) : Prop := z.length ≤ m ∧ ∀ c ∈ z.cps.toList, 97 ≤ c ∧ c ≤ 122
/-- a class name -/
def Let (c : Nat) : Prop := (97 ≤ c ∧ c ≤ 122) ∨ (65 ≤ c ∧ c ≤ 90)
def ClsN (z : Str) : Prop := ∃ (c : Nat) (r : List Nat), z.cps.toList = c :: r ∧ (65 ≤ c ∧ c ≤ 90) ∧ (∀ d ∈ r, Let d) ∧ r.length ≤ 11
/-! ### isinstance -/
section
variable {K : PySem.W.Frag} {H : Hp} {Q : VK}
theorem ty_lst {a : Addr} {xs : List V} (h : SqL K H a xs) : TyX K H (.ref a) (.type "list") := by
  rcases h with (h | ⟨o, h⟩) | ⟨o, its, n, h1, h2, h3⟩
  · exact .base (.lst h)
  · exact .base (.frz h)
  · exact .kList h1 h2
theorem ty_tup {a : Addr} {xs : List V} (h : SqT K H a xs) : TyX K H (.ref a) (.type "tuple") := by
  rcases h with (h | ⟨o, h⟩) | ⟨o, its, n, h1, h2, h3⟩
  · exact .base (.tup h)
  · exact .fTuple h
  · exact .kTuple h1 h2
theorem r_isi {x : V} {n m : String} {b : Bool} (ty : TyX K H x (.type n)) (h : kitB n m = some b) (q : Q (.bl b) H) : rIsi K [x, .ty m] H Q := ⟨x, .ty m, _, _, b, rfl, .ty m, ty, kit_ty h, q⟩
theorem r_isiLT {x : V} {n : String} {b1 b2 b : Bool} {tp : Addr} (ht : H tp = some (.tup [.ty "list", .ty "tuple"])) (ty : TyX K H x (.type n)) (h1 : kitB n "list" = some b1) (h2 : kitB n "tuple" = some b2) (hb : (b1 || b2) = b) (q : Q (.bl b) H) : rIsiT K [x, .ref tp] H Q := by
  refine ⟨x, tp, _, _, [.type "list", .type "tuple"], b, rfl, ht, .cons (.ty _) (.cons (.ty _) .nil), ty, kitAny_cons (kit_ty h1) (fun e1 => kitAny_cons (kit_ty h2) (fun e2 => ?_) (fun e2 => ?_)) (fun e1 => ?_), q⟩
  · rw [← hb, e1, e2]; exact kitAny_nil
  · rw [← hb, e1, e2]; rfl
  · rw [← hb, e1]; rfl
theorem r_isiLT_non {tp : Addr} (ht : H tp = some (.tup [.ty "list", .ty "tuple"])) (q : Q (.bl false) H) : rIsiT K [.non, .ref tp] H Q := r_isiLT (b1 := false) (b2 := false) ht (TyX.base .non) (by decide +kernel) (by decide +kernel) rfl q
theorem r_isiLT_bl {tp : Addr} (ht : H tp = some (.tup [.ty "list", .ty "tuple"])) {b : Bool} (q : Q (.bl false) H) : rIsiT K [(.bl b), .ref tp] H Q := r_isiLT (b1 := false) (b2 := false) ht (TyX.base (.bl b)) (by decide +kernel) (by decide +kernel) rfl q
theorem r_isiLT_int {tp : Addr} (ht : H tp = some (.tup [.ty "list", .ty "tuple"])) {i : Int} (q : Q (.bl false) H) : rIsiT K [(.int i), .ref tp] H Q := r_isiLT (b1 := false) (b2 := false) ht (TyX.base (.int i)) (by decide +kernel) (by decide +kernel) rfl q
theorem r_isiLT_str {tp : Addr} (ht : H tp = some (.tup [.ty "list", .ty "tuple"])) {z : Str} (q : Q (.bl false) H) : rIsiT K [(.str z), .ref tp] H Q := r_isiLT (b1 := false) (b2 := false) ht (TyX.base (.str z)) (by decide +kernel) (by decide +kernel) rfl q
theorem r_isiLT_lst {tp : Addr} (ht : H tp = some (.tup [.ty "list", .ty "tuple"])) {p : Addr} {xs : List V} (h : SqL K H p xs) (q : Q (.bl true) H) : rIsiT K [(.ref p), .ref tp] H Q := r_isiLT (b1 := true) (b2 := false) ht (ty_lst h) (by decide +kernel) (by decide +kernel) rfl q
theorem r_isiLT_tup {tp : Addr} (ht : H tp = some (.tup [.ty "list", .ty "tuple"])) {p : Addr} {xs : List V} (h : SqT K H p xs) (q : Q (.bl true) H) : rIsiT K [(.ref p), .ref tp] H Q := r_isiLT (b1 := false) (b2 := true) ht (ty_tup h) (by decide +kernel) (by decide +kernel) rfl q
theorem r_isi_non_int (q : Q (.bl false) H) : rIsi K [.non, .ty "int"] H Q := r_isi (TyX.base .non) (by decide +kernel) q
theorem r_isi_non_str (q : Q (.bl false) H) : rIsi K [.non, .ty "str"] H Q := r_isi (TyX.base .non) (by decide +kernel) q
theorem r_isi_non_list (q : Q (.bl false) H) : rIsi K [.non, .ty "list"] H Q := r_isi (TyX.base .non) (by decide +kernel) q
theorem r_isi_non_tuple (q : Q (.bl false) H) : rIsi K [.non, .ty "tuple"] H Q := r_isi (TyX.base .non) (by decide +kernel) q
theorem r_isi_non_bool (q : Q (.bl false) H) : rIsi K [.non, .ty "bool"] H Q := r_isi (TyX.base .non) (by decide +kernel) q
theorem r_isi_bl_int {b : Bool} (q : Q (.bl true) H) : rIsi K [(.bl b), .ty "int"] H Q := r_isi (TyX.base (.bl b)) (by decide +kernel) q
theorem r_isi_bl_str {b : Bool} (q : Q (.bl false) H) : rIsi K [(.bl b), .ty "str"] H Q := r_isi (TyX.base (.bl b)) (by decide +kernel) q
theorem r_isi_bl_list {b : Bool} (q : Q (.bl false) H) : rIsi K [(.bl b), .ty "list"] H Q := r_isi (TyX.base (.bl b)) (by decide +kernel) q
theorem r_isi_bl_tuple {b : Bool} (q : Q (.bl false) H) : rIsi K [(.bl b), .ty "tuple"] H Q := r_isi (TyX.base (.bl b)) (by decide +kernel) q
theorem r_isi_bl_bool {b : Bool} (q : Q (.bl true) H) : rIsi K [(.bl b), .ty "bool"] H Q := r_isi (TyX.base (.bl b)) (by decide +kernel) q
theorem r_isi_int_int {i : Int} (q : Q (.bl true) H) : rIsi K [(.int i), .ty "int"] H Q := r_isi (TyX.base (.int i)) (by decide +kernel) q
theorem r_isi_int_str {i : Int} (q : Q (.bl false) H) : rIsi K [(.int i), .ty "str"] H Q := r_isi (TyX.base (.int i)) (by decide +kernel) q
theorem r_isi_int_list {i : Int} (q : Q (.bl false) H) : rIsi K [(.int i), .ty "list"] H Q := r_isi (TyX.base (.int i)) (by decide +kernel) q
theorem r_isi_int_tuple {i : Int} (q : Q (.bl false) H) : rIsi K [(.int i), .ty "tuple"] H Q := r_isi (TyX.base (.int i)) (by decide +kernel) q
theorem r_isi_int_bool {i : Int} (q : Q (.bl false) H) : rIsi K [(.int i), .ty "bool"] H Q := r_isi (TyX.base (.int i)) (by decide +kernel) q
theorem r_isi_str_int {z : Str} (q : Q (.bl false) H) : rIsi K [(.str z), .ty "int"] H Q := r_isi (TyX.base (.str z)) (by decide +kernel) q
theorem r_isi_str_str {z : Str} (q : Q (.bl true) H) : rIsi K [(.str z), .ty "str"] H Q := r_isi (TyX.base (.str z)) (by decide +kernel) q
theorem r_isi_str_list {z : Str} (q : Q (.bl false) H) : rIsi K [(.str z), .ty "list"] H Q := r_isi (TyX.base (.str z)) (by decide +kernel) q
theorem r_isi_str_tuple {z : Str} (q : Q (.bl false) H) : rIsi K [(.str z), .ty "tuple"] H Q := r_isi (TyX.base (.str z)) (by decide +kernel) q
theorem r_isi_str_bool {z : Str} (q : Q (.bl false) H) : rIsi K [(.str z), .ty "bool"] H Q := r_isi (TyX.base (.str z)) (by decide +kernel) q
theorem r_isi_lst_int {p : Addr} {xs : List V} (h : SqL K H p xs) (q : Q (.bl false) H) : rIsi K [(.ref p), .ty "int"] H Q := r_isi (ty_lst h) (by decide +kernel) q
theorem r_isi_lst_str {p : Addr} {xs : List V} (h : SqL K H p xs) (q : Q (.bl false) H) : rIsi K [(.ref p), .ty "str"] H Q := r_isi (ty_lst h) (by decide +kernel) q
theorem r_isi_lst_list {p : Addr} {xs : List V} (h : SqL K H p xs) (q : Q (.bl true) H) : rIsi K [(.ref p), .ty "list"] H Q := r_isi (ty_lst h) (by decide +kernel) q
theorem r_isi_lst_tuple {p : Addr} {xs : List V} (h : SqL K H p xs) (q : Q (.bl false) H) : rIsi K [(.ref p), .ty "tuple"] H Q := r_isi (ty_lst h) (by decide +kernel) q
theorem r_isi_lst_bool {p : Addr} {xs : List V} (h : SqL K H p xs) (q : Q (.bl false) H) : rIsi K [(.ref p), .ty "bool"] H Q := r_isi (ty_lst h) (by decide +kernel) q
theorem r_isi_tup_int {p : Addr} {xs : List V} (h : SqT K H p xs) (q : Q (.bl false) H) : rIsi K [(.ref p), .ty "int"] H Q := r_isi (ty_tup h) (by decide +kernel) q
theorem r_isi_tup_str {p : Addr} {xs : List V} (h : SqT K H p xs) (q : Q (.bl false) H) : rIsi K [(.ref p), .ty "str"] H Q := r_isi (ty_tup h) (by decide +kernel) q
theorem r_isi_tup_list {p : Addr} {xs : List V} (h : SqT K H p xs) (q : Q (.bl false) H) : rIsi K [(.ref p), .ty "list"] H Q := r_isi (ty_tup h) (by decide +kernel) q
theorem r_isi_tup_tuple {p : Addr} {xs : List V} (h : SqT K H p xs) (q : Q (.bl true) H) : rIsi K [(.ref p), .ty "tuple"] H Q := r_isi (ty_tup h) (by decide +kernel) q
theorem r_isi_tup_bool {p : Addr} {xs : List V} (h : SqT K H p xs) (q : Q (.bl false) H) : rIsi K [(.ref p), .ty "bool"] H Q := r_isi (ty_tup h) (by decide +kernel) q
end
/-! ### plain values as data -/
def datV : V → PyData
  | .non => .none
  | .bl b => .bool b
  | .int i => .int i
  | .str z => .str z
  | _ => .none
def Sc : V → Prop
  | .non => True
  | .bl _ => True
  | .int _ => True
  | .str z => PyData.strOk z = true
  | _ => False
theorem dp_sc {K : PySem.W.Frag} {H : Hp} {v : V} (h : Sc v) : Dp K H v (datV v) := by
  cases v with
  | non => exact .non
  | bl b => exact .bl b
  | int i => exact .int i
  | str z => exact .str z
  | _ => exact h.elim
theorem dpAll_sc {K : PySem.W.Frag} {H : Hp} : ∀ {xs : List V}, (∀ v ∈ xs, Sc v) → DpAll K H xs (xs.map datV)
  | [], _ => .nil
  | v :: r, h => .cons (dp_sc (h v (List.mem_cons_self ..))) (dpAll_sc fun u hu => h u (List.mem_cons_of_mem _ hu))
theorem canLay_sc {v : V} (h : Sc v) : (datV v).canLay0 = true ∧ (datV v).depth = 0 := by
  cases v with
  | str z => exact ⟨by simpa [datV, PyData.canLay0] using (show PyData.strOk z = true from h), by simp [datV, PyData.depth]⟩
  | non => exact ⟨by simp [datV, PyData.canLay0], by simp [datV, PyData.depth]⟩
  | bl z => exact ⟨by simp [datV, PyData.canLay0], by simp [datV, PyData.depth]⟩
  | int z => exact ⟨by simp [datV, PyData.canLay0], by simp [datV, PyData.depth]⟩
  | _ => exact h.elim
theorem canLayAll_sc : ∀ {xs : List V}, (∀ v ∈ xs, Sc v) → PyData.canLayAll0 (xs.map datV) = true ∧ PyData.depthAll (xs.map datV) = 0
  | [], _ => ⟨by simp [PyData.canLayAll0], by simp [PyData.depthAll]⟩
  | v :: r, h => by
    have h1 := canLay_sc (h v (List.mem_cons_self ..))
    have h2 := canLayAll_sc (xs := r) fun u hu => h u (List.mem_cons_of_mem _ hu)
    exact ⟨by simp [PyData.canLayAll0, h1.1, h2.1], by simp [PyData.depthAll, h1.2, h2.2]⟩
theorem shaped_list {xs : List V} (h : ∀ v ∈ xs, Sc v) : SeqAt.shaped (.list (xs.map datV)) = true := by
  have h2 := canLayAll_sc h
  simp [SeqAt.shaped, PyData.canLay0, PyData.depth, h2.1, h2.2]
theorem shaped_tuple {xs : List V} (h : ∀ v ∈ xs, Sc v) : SeqAt.shaped (.tuple (xs.map datV)) = true := by
  have h2 := canLayAll_sc h
  simp [SeqAt.shaped, PyData.canLay0, PyData.depth, h2.1, h2.2]
theorem eqv_same {d : PyData} (h : SeqAt.shaped d = true) : PyData.eqv d d = true := SeqAt.eqv_refl d (SeqAt.canLay_of_shaped h)
theorem word_ok {m : Nat} {z : Str} (h : Word m z) : PyData.strOk z = true := by
  unfold PyData.strOk
  rw [← Array.all_toList, List.all_eq_true]
  intro c hc
  have := h.2 c hc
  exact decide_eq_true (by omega)
theorem str_ok {z : Str} (h : ∀ c ∈ z.cps.toList, c < 1114112) : PyData.strOk z = true := by
  unfold PyData.strOk
  rw [← Array.all_toList, List.all_eq_true]
  intro c hc
  exact decide_eq_true (h c hc)
theorem cls_ok {z : Str} (h : ClsN z) : PyData.strOk z = true := by
  obtain ⟨c, r, e, h1, h2, _⟩ := h
  refine str_ok fun d hd => ?_
  rw [e] at hd
  rcases List.mem_cons.mp hd with rfl | hd
  · omega
  · rcases h2 d hd with h | h <;> omega
/-- a bag just made: what stood before is what is seen without it -/
theorem hid_start {b : Addr} {H : Hp} {o : HO} (h : H b = none) : hid b (upd H b o) = H := by
  rw [hid_bag]
  funext a
  unfold hid
  by_cases e : a = b
  · rw [if_pos e, e, h]
  · rw [if_neg e]
theorem iteTc {c : Bool} {A B : Prop} (hc : c = true) (h : A) : if c = true then A else B := by rw [if_pos hc]; exact h
theorem iteFc {c : Bool} {A B : Prop} (hc : c = false) (h : B) : if c = true then A else B := by rw [hc, if_neg Bool.false_ne_true]; exact h
theorem iteY {p : Prop} {dp : Decidable p} {A B : Prop} (hc : p) (h : A) : if decide p = true then A else B := by rw [if_pos (decide_eq_true hc)]; exact h
theorem iteN {p : Prop} {dp : Decidable p} {A B : Prop} (hc : ¬ p) (h : B) : if decide p = true then A else B := by rw [if_neg (by simp [hc])]; exact h
theorem iteNY {p : Prop} {dp : Decidable p} {A B : Prop} (hc : p) (h : B) : if (!decide p) = true then A else B := by rw [if_neg (by simp [hc])]; exact h
theorem iteNN {p : Prop} {dp : Decidable p} {A B : Prop} (hc : ¬ p) (h : A) : if (!decide p) = true then A else B := by rw [if_pos (by simp [hc])]; exact h
theorem r_neDF {K : PySem.W.Frag} {H : Hp} {Q : VK} {x y : V} {d : PyData} (h1 : Dp K H x d) (h2 : Dp K H y d) (s : SeqAt.shaped d = true) (q : Q (.bl false) H) : rNeA K x y H Q := .inr ⟨d, d, h1, h2, s, s, by rw [eqv_same s]; exact q⟩
theorem r_eqDT {K : PySem.W.Frag} {H : Hp} {Q : VK} {x y : V} {d : PyData} (h1 : Dp K H x d) (h2 : Dp K H y d) (s : SeqAt.shaped d = true) (q : Q (.bl true) H) : rEqA K x y H Q := .inr ⟨d, d, h1, h2, s, s, by rw [eqv_same s]; exact q⟩
/-- the built-in names that stand -/
structure Bl (mg : Str → Option Value) : Prop where
  len : mg "len" = none
  abs : mg "abs" = none
  max : mg "max" = none
  min : mg "min" = none
  isinstance : mg "isinstance" = none
  range : mg "range" = none
  int : mg "int" = none
  str : mg "str" = none
  list : mg "list" = none
  tuple : mg "tuple" = none
  bool : mg "bool" = none
  dict : mg "dict" = none
  all : mg "all" = none
  any : mg "any" = none
  enumerate : mg "enumerate" = none
  sorted : mg "sorted" = none
  repr : mg "repr" = none
def blNames : List Str := ["len", "abs", "max", "min", "isinstance", "range", "int", "str", "list", "tuple", "bool", "dict", "all", "any", "enumerate", "sorted", "repr"]
/-! ### what is new -/
/-- what H' has at places that H did not have -/
def nov (H H' : Hp) : Hp := fun a => if (H a).isSome = true then none else H' a
theorem nov_get {H H' : Hp} {a : Addr} {o : HO} (h : nov H H' a = some o) : H a = none ∧ H' a = some o := by
  unfold nov at h
  cases e : H a with
  | none => rw [e, if_neg (by simp)] at h; exact ⟨rfl, h⟩
  | some u => rw [e, if_pos (show (some u).isSome = true from rfl)] at h; cases h
theorem nov_of {H H' : Hp} {a : Addr} {o : HO} (h1 : H a = none) (h2 : H' a = some o) : nov H H' a = some o := by
  unfold nov
  rw [h1, if_neg (by simp)]
  exact h2
theorem nov_ex {H H' : Hp} : Evl.Ex (nov H H') H' := fun _ _ h => (nov_get h).2
theorem Bag.some {b : Addr} {n : Nat} {H : Hp} (h : Bag b n H) : H b ≠ none := by
  obtain ⟨l, h1, _⟩ := h
  rw [h1]
  exact fun e => by cases e
theorem Drw.novm {b : Addr} {n : Nat} {H0 H1 H2 : Hp} (r : Drw b n H1 H2) (hb : H0 b ≠ none) : Evl.Ex (nov H0 H1) (nov H0 H2) := fun a o h => by
  obtain ⟨h1, h2⟩ := nov_get h
  have ne : a ≠ b := fun e => hb (by rw [← e]; exact h1)
  exact nov_of h1 (hid_get (r.ex _ _ (hid_of h2 ne)))
theorem Drw.dom {b : Addr} {n : Nat} {H0 H1 : Hp} (r : Drw b n H0 H1) {a : Addr} (h : H1 a = none) : H0 a = none := by
  cases e : H0 a with
  | none => rfl
  | some o =>
    by_cases hb : a = b
    · exact absurd (hb ▸ h) r.bag.some
    · have := hid_get (r.ex _ _ (hid_of e hb))
      rw [h] at this
      cases this
theorem Drw.base {b : Addr} {n : Nat} {H0 H1 H2 : Hp} (r : Drw b n H0 H1) : Evl.Ex (nov H1 H2) (nov H0 H2) := fun a o h => by
  obtain ⟨h1, h2⟩ := nov_get h
  exact nov_of (r.dom h1) h2
theorem Drw.baseL {b L : Addr} {n : Nat} {H0 H1 H2 : Hp} (r : Drw b n H0 H1) (hL : H1 L ≠ none) : Evl.Ex (nov H1 H2) (hid L (nov H0 H2)) := fun a o h => by
  refine hid_of (r.base a o h) fun e => hL ?_
  rw [← e]
  exact (nov_get h).1
theorem nov_hidb {b : Addr} {H H' : Hp} (hb : H b ≠ none) : Evl.Ex (nov H H') (hid b H') := fun a o h => by
  obtain ⟨h1, h2⟩ := nov_get h
  exact hid_of h2 fun e => hb (by rw [← e]; exact h1)
theorem hid_nov_upd {L : Addr} {H H' : Hp} {o : HO} : hid L (nov H (upd H' L o)) = hid L (nov H H') := by
  funext a
  unfold hid nov
  by_cases e : a = L
  · rw [if_pos e, if_pos e]
  · rw [if_neg e, if_neg e, upd_ne e]
theorem hid_mono {L : Addr} {H H' : Hp} (e : Evl.Ex H H') : Evl.Ex (hid L H) (hid L H') := fun a o h => hid_of (e a o (hid_get h)) (hid_ne h)
/-- a comprehension over a range whose elements are draws -/
theorem lc_draw {m : Nat} {b : Addr} {n c : Nat} {H2 : Hp} {L : Addr} {te : TE} {j : Nat} {vs : List Nat} {σ : L2.St} {Qd : Hp → Prop} (hL : H2 L = none) (hb : Bag b n H2) (hm : m ≤ 1000000) (Dat : Hp → V → Prop) (mono : ∀ G G' v, Evl.Ex G G' → Dat G v → Dat G' v)
    (hw : ∀ x, wipe ((wipe σ vs).set j (some x)) vs = wipe σ vs)
    (hel : ∀ i H', i < m → Drw b (n + c * i) H2 H' → ∀ Q' : VK, (∀ v H'', Dat (nov H' H'') v → Drw b (n + c * i + c) H' H'' → Q' v H'') → te ((wipe σ vs).set j (some (.int (0 + (i : Nat))))) H' Q')
    (q : ∀ H' xs, xs.length = m → (∀ v ∈ xs, Dat (hid L (nov H2 H')) v) → H' L = some (.lst xs) → L ≠ b → Drw b (n + c * m) H2 H' → Qd H') :
    ∃ W : Nat → Nat → Hp → Prop, (∃ m, W 0 m (upd H2 L (.lst []))) ∧ ∀ i k H, W i k H →
      ((Itr 0 m).stop i H ∧ Qd H) ∨ ((Itr 0 m).go i H ∧ ∃ Nx : Hp → Prop, (∀ H', Nx H' → ∃ m', m' < k ∧ W (i + 1) m' H') ∧ ∀ x H', (Itr 0 m).yld i H x H' → gName j x (wipe σ vs) H' fun σ2 H2 => wipe σ2 vs = wipe σ vs ∧ tYes σ2 H2 fun b H3 =>
        if b = true then te σ2 H3 fun y H4 => ∃ acc, H4 L = some (.lst acc) ∧ acc.length < sizeLine ∧ Nx (upd H4 L (.lst (acc ++ [y]))) else Nx H3) := by
  have nLb : L ≠ b := by
    obtain ⟨l, q1, _⟩ := hb
    exact (ne_of_none q1 hL).symm
  refine lc_range (lo := 0) (n := m) (fun i H' => ∃ xs : List V, xs.length = i ∧ (∀ v ∈ xs, Dat (hid L (nov H2 H')) v) ∧ H' L = some (.lst xs) ∧ Drw b (n + c * i) H2 H') ?_ ?_ ?_
  · exact ⟨[], rfl, fun _ h => by (cases h), upd_same, (hb.new hL).1⟩
  · rintro i H' hi ⟨xs, hl, hI, h1, r1⟩
    refine ⟨hw _, r_yes (iteT ?_)⟩
    refine hel i H' hi r1 _ fun v H3 hv r2 => ?_
    have hL3 : H3 L = some (.lst xs) := hid_get (r2.ex _ _ (hid_of h1 nLb))
    refine ⟨xs, hL3, by rw [sizeLine_eq]; omega, xs ++ [v], by simp [hl], ?_, upd_same, ?_⟩
    · intro u hu
      rw [hid_nov_upd]
      rcases List.mem_append.mp hu with hu | hu
      · exact mono _ _ _ (hid_mono (r2.novm hb.some)) (hI u hu)
      · rw [List.mem_singleton.mp hu]
        exact mono _ _ _ (r1.baseL (by rw [h1]; exact fun e => by cases e)) hv
    · exact (Drw.put (r1.trans r2) (hid_none hL) nLb).mono (by rw [Nat.mul_succ]; omega)
  · rintro H' ⟨xs, hl, hI, h1, r1⟩
    exact q H' xs hl hI h1 nLb r1

/-! ### what a value is, by its data -/
def smallL : List Nat := (List.range 26).map (· + 97)
def capsL : List Nat := (List.range 26).map (· + 65)
def isWordS (z : Str) (m : Int) : Bool := decide ((z.length : Int) ≤ m) && z.cps.toList.all fun c => decide (c ∈ smallL)
def isWordD (m : Int) : PyData → Bool
  | .str z => isWordS z m
  | _ => false
def isIntD : PyData → Bool
  | .int _ => true
  | _ => false
def isItemD : PyData → Bool
  | .none => true
  | .int _ => true
  | .str z => isWordS z 30
  | _ => false
def isClsS (z : Str) : Bool := match z.cps.toList with
  | [] => false
  | c :: r => decide (r.length ≤ 11) && (decide (c ∈ capsL) && (c :: r).all fun d => decide (d ∈ smallL) || decide (d ∈ capsL))
def isClsD : PyData → Bool
  | .str z => isClsS z
  | _ => false
def isNonD : PyData → Bool
  | .none => true
  | _ => false
def isRaisedD : PyData → Bool
  | .tuple [.str a, b, c] => decide (a = "raises") && (isClsD b && (isNonD c || isClsD c))
  | _ => false
theorem raised_len {xs : List PyData} (h : xs.length ≠ 3) : isRaisedD (.tuple xs) = false := by
  unfold isRaisedD
  split
  · rename_i a b c e
    injection e with e
    subst e
    exact absurd rfl h
  · rfl
theorem raised_fst {a b c : PyData} (h : ∀ z, a ≠ .str z) : isRaisedD (.tuple [a, b, c]) = false := by
  unfold isRaisedD
  split
  · rename_i a' b' c' e
    injection e with e
    injection e with e1 e2
    exact absurd e1 (h a')
  · rfl
def isAnswerD : PyData → Bool
  | .list xs => xs.all isItemD
  | d => isItemD d || isRaisedD d
mutual
def fit : PyData → Bool
  | .none => true
  | .bool _ => true
  | .int _ => true
  | .str z => decide (z.length ≤ 100000) && PyData.strOk z
  | .list xs => decide (xs.length ≤ 100000) && fitAll xs
  | .tuple xs => decide (xs.length ≤ 100000) && fitAll xs
  | .dict _ => false
def fitAll : List PyData → Bool
  | [] => true
  | d :: r => fit d && fitAll r
end
theorem fit_str {z : Str} (h : fit (.str z) = true) : z.length ≤ 100000 ∧ PyData.strOk z = true := by
  rw [fit, Bool.and_eq_true, decide_eq_true_eq] at h
  exact h
theorem fit_list {xs : List PyData} (h : fit (.list xs) = true) : xs.length ≤ 100000 ∧ fitAll xs = true := by
  rw [fit, Bool.and_eq_true, decide_eq_true_eq] at h
  exact h
theorem fit_tuple {xs : List PyData} (h : fit (.tuple xs) = true) : xs.length ≤ 100000 ∧ fitAll xs = true := by
  rw [fit, Bool.and_eq_true, decide_eq_true_eq] at h
  exact h
theorem fitAll_mem : ∀ {xs : List PyData} {d : PyData}, fitAll xs = true → d ∈ xs → fit d = true
  | x :: r, d, h, m => by
    rw [fitAll, Bool.and_eq_true] at h
    rcases List.mem_cons.mp m with rfl | m
    · exact h.1
    · exact fitAll_mem h.2 m
theorem fitAll_of : ∀ {xs : List PyData}, (∀ d ∈ xs, fit d = true) → fitAll xs = true
  | [], _ => by rw [fitAll]
  | x :: r, h => by rw [fitAll, h x (List.mem_cons_self ..), fitAll_of fun d m => h d (List.mem_cons_of_mem _ m)]; rfl
mutual
theorem fit_lay : ∀ {d : PyData}, fit d = true → d.canLay0 = true
  | .none, _ => by rw [PyData.canLay0]
  | .bool _, _ => by rw [PyData.canLay0]
  | .int _, _ => by rw [PyData.canLay0]
  | .str z, h => by rw [PyData.canLay0]; exact (fit_str h).2
  | .list xs, h => by rw [PyData.canLay0]; exact fitAll_lay (fit_list h).2
  | .tuple xs, h => by rw [PyData.canLay0]; exact fitAll_lay (fit_tuple h).2
  | .dict _, h => by simp [fit] at h
theorem fitAll_lay : ∀ {xs : List PyData}, fitAll xs = true → PyData.canLayAll0 xs = true
  | [], _ => by rw [PyData.canLayAll0]
  | x :: r, h => by
    rw [fitAll, Bool.and_eq_true] at h
    rw [PyData.canLayAll0, fit_lay h.1, fitAll_lay h.2]
    rfl
end
/-- a def of one value that only reads it -/
def spB1 (K : PySem.W.Frag) (f : PyData → Bool) : Sp := fun vs H Q _ => ∃ (v : V) (d : PyData), vs = [v] ∧ Dp K H v d ∧ fit d = true ∧ ∀ H', Evl.Ex H H' → Q (.bl (f d)) H'
/-- a value that is plain data, at most so deep -/
def Dv (K : PySem.W.Frag) (H : Hp) (m : Nat) (v : V) : Prop := ∃ d, Dp K H v d ∧ fit d = true ∧ d.depth ≤ m
theorem dv_non {K : PySem.W.Frag} {H : Hp} {m : Nat} : Dv K H m .non := ⟨_, .non, by rw [fit], by simp [PyData.depth]⟩
theorem dv_bl {K : PySem.W.Frag} {H : Hp} {m : Nat} {b : Bool} : Dv K H m (.bl b) := ⟨_, .bl b, by rw [fit], by simp [PyData.depth]⟩
theorem dv_int {K : PySem.W.Frag} {H : Hp} {m : Nat} {i : Int} : Dv K H m (.int i) := ⟨_, .int i, by rw [fit], by simp [PyData.depth]⟩
theorem dv_str {K : PySem.W.Frag} {H : Hp} {m : Nat} {z : Str} (h1 : z.length ≤ 100000) (h2 : PyData.strOk z = true) : Dv K H m (.str z) := ⟨_, .str z, by rw [fit, h2, Bool.and_true]; exact decide_eq_true h1, by simp [PyData.depth]⟩
theorem Bag.ex {b : Addr} {n : Nat} {H H' : Hp} (h : Bag b n H) (e : Evl.Ex H H') : Drw b n H H' := by
  obtain ⟨l, h1, h2⟩ := h
  refine ⟨fun a o ha => hid_of (e _ _ (hid_get ha)) (hid_ne ha), l, e _ _ h1, h2⟩
mutual
theorem Dp.mono {K : PySem.W.Frag} {H H' : Hp} (e : Evl.Ex H H') : ∀ {d : PyData} {v : V}, Dp K H v d → Dp K H' v d
  | _, _, .non => .non
  | _, _, .bl b => .bl b
  | _, _, .int i => .int i
  | _, _, .str x => .str x
  | _, _, .lst s r => .lst (Evl.ex_l e s) (DpAll.mono e r)
  | _, _, .tup s r => .tup (Evl.ex_t e s) (DpAll.mono e r)
theorem DpAll.mono {K : PySem.W.Frag} {H H' : Hp} (e : Evl.Ex H H') : ∀ {ds : List PyData} {vs : List V}, DpAll K H vs ds → DpAll K H' vs ds
  | _, _, .nil => .nil
  | _, _, .cons a r => .cons (Dp.mono e a) (DpAll.mono e r)
end
theorem DpAll.length {K : PySem.W.Frag} {H : Hp} : ∀ {vs : List V} {ds : List PyData}, DpAll K H vs ds → vs.length = ds.length
  | _, _, .nil => rfl
  | _, _, .cons _ r => congrArg Nat.succ (DpAll.length r)
theorem DpAll.get {K : PySem.W.Frag} {H : Hp} : ∀ {vs : List V} {ds : List PyData} {i : Nat} {v : V}, DpAll K H vs ds → vs[i]? = some v → ∃ d, ds[i]? = some d ∧ Dp K H v d
  | _, _, i, v, .nil, e => by simp at e
  | _, _, 0, v, .cons a r, e => by
    simp at e
    subst e
    exact ⟨_, rfl, a⟩
  | _, _, i + 1, v, .cons a r, e => by
    obtain ⟨d, h1, h2⟩ := DpAll.get (i := i) (v := v) r (by simpa using e)
    exact ⟨d, by simpa using h1, h2⟩
theorem Dv.mono {K : PySem.W.Frag} {H H' : Hp} {m n : Nat} {v : V} (e : Evl.Ex H H') (h : m ≤ n) (d : Dv K H m v) : Dv K H' n v := by
  obtain ⟨d, h1, h2, h3⟩ := d
  exact ⟨d, Dp.mono e h1, h2, Nat.le_trans h3 h⟩
theorem dvAll {K : PySem.W.Frag} {H : Hp} {m : Nat} : ∀ {xs : List V}, (∀ v ∈ xs, Dv K H m v) → ∃ ds, DpAll K H xs ds ∧ fitAll ds = true ∧ PyData.depthAll ds ≤ m
  | [], _ => ⟨[], .nil, by rw [fitAll], by simp [PyData.depthAll]⟩
  | v :: r, h => by
    obtain ⟨d, h1, h2, h3⟩ := h v (List.mem_cons_self ..)
    obtain ⟨ds, k1, k2, k3⟩ := dvAll (xs := r) fun u hu => h u (List.mem_cons_of_mem _ hu)
    refine ⟨d :: ds, .cons h1 k1, by rw [fitAll, h2, k2]; rfl, ?_⟩
    rw [PyData.depthAll]
    omega
theorem dv_lst {K : PySem.W.Frag} {H : Hp} {m : Nat} {a : Addr} {xs : List V} (s : SqL K H a xs) (h : ∀ v ∈ xs, Dv K H m v) (hl : xs.length ≤ 100000) : Dv K H (m + 1) (.ref a) := by
  obtain ⟨ds, k1, k2, k3⟩ := dvAll h
  refine ⟨.list ds, .lst s k1, by rw [fit, k2, Bool.and_true, ← DpAll.length k1]; exact decide_eq_true hl, ?_⟩
  rw [PyData.depth]
  omega
theorem dv_tup {K : PySem.W.Frag} {H : Hp} {m : Nat} {a : Addr} {xs : List V} (s : SqT K H a xs) (h : ∀ v ∈ xs, Dv K H m v) (hl : xs.length ≤ 100000) : Dv K H (m + 1) (.ref a) := by
  obtain ⟨ds, k1, k2, k3⟩ := dvAll h
  refine ⟨.tuple ds, .tup s k1, by rw [fit, k2, Bool.and_true, ← DpAll.length k1]; exact decide_eq_true hl, ?_⟩
  rw [PyData.depth]
  omega
theorem SqL.len {K : PySem.W.Frag} {H : Hp} {a : Addr} {xs : List V} {P : Program} {w : World} {h : Heap} (o : HOk P w H h) (s : SqL K H a xs) : xs.length ≤ sizeLine := by
  rcases s with (s | ⟨b, s⟩) | ⟨o, its, n, _, _, _, _, s, r⟩
  · exact (o a _ s).1
  · exact (o a _ s).2.1
  · rw [r.length, Array.length_toList]
    exact s

/-! ### the head's facts -/
theorem at_of {fa : List He.Fa} {fn : List He.DefD} {K : PySem.W.Frag} {mg : Str → Option Value} {h : Heap} {x : Str} {st : Stmt} (X : K.In h) (G : h.Ns mainGlobals mg) (c : He.SaysD fa fn K) (i j : Nat)
    (h1 : fn[i]? = some ⟨(x, none), x, x, defArgs st, defBody st, defScope st, [], []⟩ := by rfl) (h2 : fa[j]? = some (.glo x) := by rfl) : At K mg x st := by
  obtain ⟨fd, F⟩ := c.def_ i h1
  exact ⟨_, fd, F, He.glo_ok X G (c.fact j h2)⟩
theorem atD_of {fa : List He.Fa} {fn : List He.DefD} {K : PySem.W.Frag} {mg : Str → Option Value} {h : Heap} {x : Str} {st : Stmt} {dfl : List He.Dv} {kwd : List (Str × He.Dv)} (X : K.In h) (G : h.Ns mainGlobals mg) (c : He.SaysD fa fn K) (i j : Nat)
    (h1 : fn[i]? = some ⟨(x, none), x, x, defArgs st, defBody st, defScope st, dfl, kwd⟩ := by rfl) (h2 : fa[j]? = some (.glo x) := by rfl) : AtD K mg x st (dfl.map (He.Dv.v K)) (kwd.map fun q => (q.1, q.2.v K)) := by
  obtain ⟨fd, F⟩ := c.def_ i h1
  exact ⟨_, fd, F, He.glo_ok X G (c.fact j h2)⟩
theorem gs_of {fa : List He.Fa} {fn : List He.DefD} {K : PySem.W.Frag} {mg : Str → Option Value} {h : Heap} {x z : Str} (X : K.In h) (G : h.Ns mainGlobals mg) (c : He.SaysD fa fn K) (j : Nat) (h2 : fa[j]? = some (.str x z) := by rfl) : ∃ u, mg x = some u ∧ RelV (.str z) u := by
  obtain ⟨t, e⟩ := He.str_ok X G (c.fact j h2)
  exact ⟨_, e, t, rfl⟩
def blFa : List He.Fa := [.free "len", .free "abs", .free "max", .free "min", .free "isinstance", .free "range", .free "int", .free "str", .free "list", .free "tuple", .free "bool", .free "dict", .free "all", .free "any", .free "enumerate", .free "sorted", .free "repr"]
theorem bl_of {fa : List He.Fa} {fn : List He.DefD} {K : PySem.W.Frag} {mg : Str → Option Value} {h : Heap} (X : K.In h) (G : h.Ns mainGlobals mg) (c : He.SaysD (blFa ++ fa) fn K) : Bl mg where
  len := He.free_ok X G (c.fact 0 (f := .free "len") rfl)
  abs := He.free_ok X G (c.fact 1 (f := .free "abs") rfl)
  max := He.free_ok X G (c.fact 2 (f := .free "max") rfl)
  min := He.free_ok X G (c.fact 3 (f := .free "min") rfl)
  isinstance := He.free_ok X G (c.fact 4 (f := .free "isinstance") rfl)
  range := He.free_ok X G (c.fact 5 (f := .free "range") rfl)
  int := He.free_ok X G (c.fact 6 (f := .free "int") rfl)
  str := He.free_ok X G (c.fact 7 (f := .free "str") rfl)
  list := He.free_ok X G (c.fact 8 (f := .free "list") rfl)
  tuple := He.free_ok X G (c.fact 9 (f := .free "tuple") rfl)
  bool := He.free_ok X G (c.fact 10 (f := .free "bool") rfl)
  dict := He.free_ok X G (c.fact 11 (f := .free "dict") rfl)
  all := He.free_ok X G (c.fact 12 (f := .free "all") rfl)
  any := He.free_ok X G (c.fact 13 (f := .free "any") rfl)
  enumerate := He.free_ok X G (c.fact 14 (f := .free "enumerate") rfl)
  sorted := He.free_ok X G (c.fact 15 (f := .free "sorted") rfl)
  repr := He.free_ok X G (c.fact 16 (f := .free "repr") rfl)
end WP

set_option Elab.async false
set_option linter.all false
set_option maxRecDepth 100000
set_option maxHeartbeats 4000000
namespace WP
open PySem PySem.Spec PyProof.Rows L2

/-! ### a hook with one more Bool -/
def obsE (n : Nat) (fa : List He.Fa) (fn : List He.DefD) (ex : PySem.W.Frag → Bool) (g : Addr → Option Obj) : He.AlD × Bool := (He.obsD fa fn (He.frG g (He.asD g n)), ex (He.frG g (He.asD g n)))
def hookE (n : Nat) (fa : List He.Fa) (fn : List He.DefD) (ex : PySem.W.Frag → Bool) : PySem.W.Hook where
  α := He.AlD × Bool
  obs := fun s => obsE n fa fn ex s.heap.get?
  val := fun _ => (He.valD fn, true)
  says := fun _ h => ∃ K : PySem.W.Frag, K.In h ∧ He.SaysD fa fn K ∧ ex K = true
  of := fun _ _ e => ⟨_, He.frG_in, congrArg (fun z : He.AlD × Bool => z.1) e, congrArg (fun z : He.AlD × Bool => z.2) e⟩
  keeps := fun _ _ _ ⟨K, hK, c⟩ k => ⟨K, PySem.W.Frag.In.keeps hK k, c⟩
theorem obsE_eq {n : Nat} {fa : List He.Fa} {fn : List He.DefD} {ex : PySem.W.Frag → Bool} {g : Addr → Option Obj} {s : Shared} (h : ∀ a, g a = s.heap.get? a) : obsE n fa fn ex g = (hookE n fa fn ex).obs s := by
  have e : g = s.heap.get? := funext h
  subst e
  rfl

/-! ### several targets -/
theorem pg_tupA {X : Cx} (K : PySem.W.Frag) {es : List Expr} {k : Nat} {pos : Pos} {n : Nat} {t : TGs} (h : PG X (.Tuple es k pos) (gTup X.K n t)) (e : X.K = K := by rfl) : PG X (.Tuple es k pos) (gTup K n t) := by subst e; exact h
section
variable {K : PySem.W.Frag} {σ : L2.St} {H : Hp} {R : L2.St → Hp → Prop} {v : V} {n : Nat} {t : TG} {ts : TGs}
theorem r_gTup {a : Addr} {xs : List V} (h : SqT K H a xs) (hl : xs.length = n) (q : ts xs σ H R) : gTup K n ts (.ref a) σ H R := ⟨a, xs, rfl, h, hl, q⟩
theorem r_gCons {r : List V} (q : t v σ H fun σ' H' => ts r σ' H' R) : gCons t ts (v :: r) σ H R := ⟨v, r, rfl, q⟩
theorem r_gNil (q : R σ H) : gNil [] σ H R := ⟨rfl, q⟩
theorem r_asgT {te : TE} {g : TG} {D : Ends} (q : te σ H fun x H1 => g x σ H1 D.nx) : tAsg te g D σ H := q
end

/-! ### texts by their signs -/
abbrev tl (z : Str) : List Nat := z.cps.toList
theorem tl_length (z : Str) : (tl z).length = z.length := by simp [Str.length]
theorem tl_ext {x y : Str} (h : tl x = tl y) : x = y := TL.ext_tl h
theorem tl_inj {x y : Str} : x = y ↔ tl x = tl y := ⟨fun h => by rw [h], tl_ext⟩
theorem tl_app (x y : Str) : tl (x ++ y) = tl x ++ tl y := TL.tl_append x y
theorem str_eta (z : Str) : (⟨(tl z).toArray⟩ : Str) = z := tl_ext rfl
theorem sub_one {z : Str} {c i : Nat} (h : i < z.length) : Builtin.Str.subAt z ⟨#[c]⟩ i = decide ((tl z)[i]? = some c) := by
  have hi : i < z.cps.size := h
  have e2 : z.cps.extract i (i + 1) = #[z.cps[i]] := by
    apply Array.ext
    · simp; omega
    · intro j h1 h2
      simp at h1 h2
      have : j = 0 := by omega
      subst this
      simp
  show (z.cps.extract i (i + 1) == #[c]) = _
  rw [e2]
  have e3 : (tl z)[i]? = some z.cps[i] := by simp [tl, hi]
  rw [e3]
  by_cases hc : z.cps[i] = c
  · rw [hc]; simp
  · have : ¬ (#[z.cps[i]] = #[c]) := fun e => hc (by simpa using e)
    rw [beq_eq_false_iff_ne.mpr this, decide_eq_false (by simpa using hc)]
theorem starts_one (z : Str) (c : Nat) : Txt.startswith z ⟨#[c]⟩ = decide ((tl z).head? = some c) := by
  show (decide (0 + 1 ≤ z.length) && Builtin.Str.subAt z ⟨#[c]⟩ 0) = _
  by_cases h : 0 < z.length
  · rw [sub_one h, decide_eq_true (by omega : 0 + 1 ≤ z.length), Bool.true_and, List.head?_eq_getElem?]
  · rw [decide_eq_false (by omega : ¬ 0 + 1 ≤ z.length), Bool.false_and]
    have : tl z = [] := List.eq_nil_of_length_eq_zero (by rw [tl_length]; omega)
    rw [this]; rfl
theorem ends_one (z : Str) (c : Nat) : Txt.endswith z ⟨#[c]⟩ = decide ((tl z).getLast? = some c) := by
  show (decide (0 + 1 ≤ z.length) && Builtin.Str.subAt z ⟨#[c]⟩ (z.length - 1)) = _
  by_cases h : 0 < z.length
  · rw [sub_one (by omega), decide_eq_true (by omega : 0 + 1 ≤ z.length), Bool.true_and, List.getLast?_eq_getElem?, tl_length]
  · rw [decide_eq_false (by omega : ¬ 0 + 1 ≤ z.length), Bool.false_and]
    have : tl z = [] := List.eq_nil_of_length_eq_zero (by rw [tl_length]; omega)
    rw [this]; rfl
theorem cut_tl (z : Str) (lo hi : Option Int) : tl (cutS z lo hi) = ((tl z).drop (HT.sIx z.length 0 lo)).take (HT.sIx z.length z.length hi - HT.sIx z.length 0 lo) := rfl
/-- z[1:] -/
theorem cut_tail (z : Str) : tl (cutS z (some 1) none) = (tl z).tail := by
  rw [cut_tl]
  have e1 : HT.sIx z.length 0 (some 1) = min 1 z.length := HT.sIx_nat z.length 0 1
  rw [e1, HT.sIx_none]
  cases h : tl z with
  | nil => simp
  | cons c r =>
    have : z.length = r.length + 1 := by rw [← tl_length, h, List.length_cons]
    rw [this]
    have : min 1 (r.length + 1) = 1 := by omega
    rw [this]
    simp
/-- z[:-1] -/
theorem cut_init (z : Str) : tl (cutS z none (some (-1))) = (tl z).dropLast := by
  rw [cut_tl, HT.sIx_none]
  have e1 : HT.sIx z.length z.length (some (-1)) = z.length - 1 := by
    show (if (-1 : Int) < 0 then ((-1 : Int) + (z.length : Int)).toNat else min (-1 : Int).toNat z.length) = _
    rw [if_pos (by omega)]
    omega
  rw [e1, List.drop_zero, List.dropLast_eq_take, tl_length]
  simp
/-- z[1:-1] -/
theorem cut_mid (z : Str) : tl (cutS z (some 1) (some (-1))) = (tl z).tail.dropLast := by
  rw [cut_tl]
  have e1 : HT.sIx z.length 0 (some 1) = min 1 z.length := HT.sIx_nat z.length 0 1
  have e2 : HT.sIx z.length z.length (some (-1)) = z.length - 1 := by
    show (if (-1 : Int) < 0 then ((-1 : Int) + (z.length : Int)).toNat else min (-1 : Int).toNat z.length) = _
    rw [if_pos (by omega)]
    omega
  rw [e1, e2]
  cases h : tl z with
  | nil => simp
  | cons c r =>
    have hl : z.length = r.length + 1 := by rw [← tl_length, h, List.length_cons]
    rw [hl]
    have : min 1 (r.length + 1) = 1 := by omega
    rw [this]
    show List.take (r.length + 1 - 1 - 1) r = r.dropLast
    rw [List.dropLast_eq_take]
    congr 1

/-! ### constants, names, calls by their signs -/
def digitsL : List Nat := (List.range 10).map (· + 48)
def isWordL (t : List Nat) (m : Nat) : Bool := decide (t.length ≤ m) && t.all fun c => decide (c ∈ smallL)
def numBody (t : List Nat) : List Nat := if t.head? = some 45 then t.tail else t
def isNumL (t : List Nat) : Bool := (decide (1 ≤ (numBody t).length) && decide ((numBody t).length ≤ 30)) && ((numBody t).all (fun c => decide (c ∈ digitsL)) && (!decide ((numBody t).head? = some 48) || decide (t = [48])))
def noneL : List Nat := [110, 111, 110, 101]
def isConstL (t : List Nat) : Bool := if 2 ≤ t.length ∧ t.head? = some 34 ∧ t.getLast? = some 34 then isWordL t.tail.dropLast 8 else (decide (t = noneL) || isNumL t)
def kwS : List Str := (["and", "assert", "assume", "break", "call", "clear", "continue", "else", "end", "error", "except", "fail", "for", "from", "if", "in", "is", "len", "let", "list", "none", "not", "number", "on", "or", "pass", "raises", "return", "set", "skip", "test", "try", "under", "word"] : List String).map Str.ofString
def isNameL (t : List Nat) : Bool := isWordL t 12 && (decide (t ≠ []) && !(kwS.any fun k => decide (tl k = t)))
def wordsL (r : List Nat) : List (List Nat) := if r = [] then [] else TL.spl [44, 32] 0 [] r
def isCallL (t : List Nat) : Bool := decide (t.getLast? = some 41) && (match TL.par [40] [] t.dropLast with
  | none => false
  | some (n, r) => isNameL n && (decide ((wordsL r).length ≤ 3) && (wordsL r).all isConstL))
theorem isWordS_L (z : Str) (m : Nat) : isWordS z (m : Int) = isWordL (tl z) m := by
  unfold isWordS isWordL
  congr 1
  exact decide_eq_decide.mpr (by rw [tl_length]; omega)
theorem spl_mem {S : List Nat} : ∀ (l : List Nat) (k : Nat) (acc : List Nat) (p : List Nat), p ∈ TL.spl S k acc l → p.length ≤ acc.length + l.length ∧ ∀ c ∈ p, c ∈ acc ∨ c ∈ l
  | [], k, acc, p, h => by
    rw [TL.spl_nil, List.mem_singleton] at h
    subst h
    exact ⟨by simp, fun c hc => .inl hc⟩
  | c :: r, 0, acc, p, h => by
    by_cases hp : TL.pre S (c :: r) = true
    · rw [TL.spl_hit hp] at h
      rcases List.mem_cons.mp h with rfl | h
      · exact ⟨by simp, fun c hc => .inl hc⟩
      · obtain ⟨h1, h2⟩ := spl_mem r _ [] p h
        exact ⟨by simp at h1 ⊢; omega, fun d hd => by rcases h2 d hd with h | h; cases h; exact .inr (List.mem_cons_of_mem _ h)⟩
    · rw [TL.spl_miss (by simpa using hp)] at h
      obtain ⟨h1, h2⟩ := spl_mem r 0 (acc ++ [c]) p h
      refine ⟨by simp at h1 ⊢; omega, fun d hd => ?_⟩
      rcases h2 d hd with h | h
      · rcases List.mem_append.mp h with h | h
        · exact .inl h
        · rw [List.mem_singleton.mp h]; exact .inr (List.mem_cons_self ..)
      · exact .inr (List.mem_cons_of_mem _ h)
  | c :: r, k + 1, acc, p, h => by
    obtain ⟨h1, h2⟩ := spl_mem r k acc p (show p ∈ TL.spl S k acc r from h)
    exact ⟨by simp; omega, fun d hd => by rcases h2 d hd with h | h; exact .inl h; exact .inr (List.mem_cons_of_mem _ h)⟩
theorem par_mem {S : List Nat} : ∀ (l acc a b : List Nat), TL.par S acc l = some (a, b) → (∀ c ∈ a, c ∈ acc ∨ c ∈ l) ∧ (∀ c ∈ b, c ∈ l) ∧ a.length ≤ acc.length + l.length ∧ b.length ≤ l.length
  | [], acc, a, b, h => by cases h
  | c :: r, acc, a, b, h => by
    have h' : (if TL.pre S (c :: r) = true then some (acc, (c :: r).drop S.length) else TL.par S (acc ++ [c]) r) = some (a, b) := h
    by_cases hp : TL.pre S (c :: r) = true
    · rw [if_pos hp] at h'
      injection h' with h'
      injection h' with e1 e2
      subst e1 e2
      exact ⟨fun c hc => .inl hc, fun d hd => List.mem_of_mem_drop hd, by omega, by simp⟩
    · rw [if_neg hp] at h'
      obtain ⟨h1, h2, h3, h4⟩ := par_mem r (acc ++ [c]) a b h'
      refine ⟨fun d hd => ?_, fun d hd => List.mem_cons_of_mem _ (h2 d hd), by simp at h3 ⊢; omega, by simp; omega⟩
      rcases h1 d hd with h | h
      · rcases List.mem_append.mp h with h | h
        · exact .inl h
        · rw [List.mem_singleton.mp h]; exact .inr (List.mem_cons_self ..)
      · exact .inr (List.mem_cons_of_mem _ h)
theorem strOk_iff {z : Str} : PyData.strOk z = true ↔ ∀ c ∈ tl z, c < 1114112 := by
  unfold PyData.strOk
  rw [← Array.all_toList, List.all_eq_true]
  exact ⟨fun h c hc => of_decide_eq_true (h c hc), fun h c hc => decide_eq_true (h c hc)⟩
theorem fit_of {z : Str} (h1 : (tl z).length ≤ 100000) (h2 : ∀ c ∈ tl z, c < 1114112) : fit (.str z) = true := by
  rw [fit, strOk_iff.mpr h2, Bool.and_true]
  exact decide_eq_true (by rw [← tl_length]; exact h1)
def isNameD : PyData → Bool
  | .str z => isNameL (tl z)
  | _ => false
def isCallD : PyData → Bool
  | .str z => isCallL (tl z)
  | _ => false
/-- a value's truth, with K written out (for tests inside a comprehension's block) -/
def tTruA (K : PySem.W.Frag) (ta : TE) : TT := fun σ H Q => ta σ H fun x H' => ∃ k, TruV K x H' k ∧ Q k H'
theorem pt_truthA {X : Cx} {a : Expr} {ta : TE} (K : PySem.W.Frag) (ha : PE X a ta) (he : ∀ whole, isTrue a X.env whole = (do let v ← whole; standAt a.pos; holding [v] (truthy v))) (h : X.K = K := by rfl) : PT X a (tTruA K ta) := by
  subst h
  exact pt_truth ha he
theorem r_tru {K : PySem.W.Frag} {ta : TE} {σ : L2.St} {H : Hp} {Q : Bool → Hp → Prop} (h : ta σ H fun x H' => ∃ k, TruV K x H' k ∧ Q k H') : tTruA K ta σ H Q := h
end WP

set_option Elab.async false
set_option linter.all false
set_option maxRecDepth 100000
set_option maxHeartbeats 4000000
/-! calls as texts: plain mathematics -/
namespace WP
open PySem PySem.Spec PyProof.Rows L2

/-! ### numbers -/
theorem int_text (i : Int) : tl (Str.ofString (toString i)) = if i < 0 then 45 :: TL.numL i.natAbs else TL.numL i.natAbs := by
  by_cases h : i < 0
  · rw [if_pos h]
    obtain ⟨n, rfl⟩ : ∃ n : Nat, i = Int.negSucc n := by
      cases i with
      | ofNat n => exact absurd h (by simp)
      | negSucc n => exact ⟨n, rfl⟩
    have e1 : toString (Int.negSucc n) = "-" ++ toString ((n + 1 : Nat) : Int) := rfl
    show (Str.ofString (toString (Int.negSucc n))).cps.toList = 45 :: TL.numL (n + 1)
    rw [e1, signs_ofString, String.toList_append, List.map_append, ← signs_ofString, ← signs_ofString, show (Str.ofString (toString ((n + 1 : Nat) : Int))).cps.toList = TL.numL (n + 1) from TL.tl_num (n + 1)]
    rfl
  · rw [if_neg h]
    obtain ⟨n, rfl⟩ := Int.eq_ofNat_of_zero_le (by omega : 0 ≤ i)
    exact TL.tl_num n
theorem numL_head {n : Nat} (h : 0 < n) : (TL.numL n).head? ≠ some 48 := by
  induction n using Nat.strongRecOn with
  | _ n ih =>
    by_cases h10 : n < 10
    · rw [TL.numL_lt h10]
      intro e
      have : 48 + n = 48 := by simpa using e
      omega
    · have ih2 := ih (n / 10) (by omega) (by omega)
      rw [TL.numL_step (by omega)]
      cases e : TL.numL (n / 10) with
      | nil => exact absurd e (TL.numL_ne _)
      | cons a r =>
        rw [e] at ih2
        exact ih2
theorem dig_mem {c : Nat} : c ∈ digitsL ↔ 48 ≤ c ∧ c ≤ 57 := by
  unfold digitsL
  rw [List.mem_map]
  constructor
  · rintro ⟨x, hx, rfl⟩
    have := List.mem_range.mp hx
    omega
  · rintro ⟨h1, h2⟩
    exact ⟨c - 48, List.mem_range.mpr (by omega), by omega⟩
theorem small_mem {c : Nat} : c ∈ smallL ↔ 97 ≤ c ∧ c ≤ 122 := by
  unfold smallL
  rw [List.mem_map]
  constructor
  · rintro ⟨x, hx, rfl⟩
    have := List.mem_range.mp hx
    omega
  · rintro ⟨h1, h2⟩
    exact ⟨c - 97, List.mem_range.mpr (by omega), by omega⟩
theorem num_all (n : Nat) : (TL.numL n).all (fun c => decide (c ∈ digitsL)) = true := by
  rw [List.all_eq_true]
  intro c hc
  exact decide_eq_true (dig_mem.mpr (TL.numL_digits n c hc))
theorem isNum_int {i : Int} (h : i.natAbs < 10 ^ 30) : isNumL (tl (Str.ofString (toString i))) = true := by
  have hne := TL.numL_ne i.natAbs
  have hlen := TL.numL_len (k := 30) (by decide) h
  have hpos : 1 ≤ (TL.numL i.natAbs).length := List.length_pos_iff.mpr hne
  rw [int_text]
  by_cases hi : i < 0
  · rw [if_pos hi]
    have e : numBody (45 :: TL.numL i.natAbs) = TL.numL i.natAbs := rfl
    rw [isNumL, e, num_all, decide_eq_true hpos, decide_eq_true hlen, decide_eq_false (numL_head (by omega))]
    rfl
  · rw [if_neg hi]
    have hh : (TL.numL i.natAbs).head? ≠ some 45 := by
      intro e
      have : 45 ∈ TL.numL i.natAbs := List.mem_of_mem_head? (by rw [e]; rfl)
      have := TL.numL_digits _ _ this
      omega
    have e : numBody (TL.numL i.natAbs) = TL.numL i.natAbs := if_neg hh
    rw [isNumL, e, num_all, decide_eq_true hpos, decide_eq_true hlen]
    by_cases h0 : i.natAbs = 0
    · rw [h0, TL.numL_lt (by decide)]; rfl
    · rw [decide_eq_false (numL_head (by omega))]; rfl

/-! ### constants -/
def Cst : V → Prop
  | .non => True
  | .int i => i.natAbs < 10 ^ 30
  | .str z => Word 8 z
  | _ => False
def cstS : V → Str
  | .non => "none"
  | .int i => Str.ofString (toString i)
  | .str z => (⟨#[34]⟩ : Str) ++ z ++ (⟨#[34]⟩ : Str)
  | _ => ""
def cstL (v : V) : List Nat := tl (cstS v)
theorem word_L {m : Nat} {z : Str} (h : Word m z) : isWordL (tl z) m = true := by
  unfold isWordL
  rw [decide_eq_true (show (tl z).length ≤ m by rw [tl_length]; exact h.1), Bool.true_and, List.all_eq_true]
  exact fun c hc => decide_eq_true (small_mem.mpr (h.2 c hc))
theorem cst_str (z : Str) : cstL (.str z) = 34 :: (tl z ++ [34]) := by
  show tl ((⟨#[34]⟩ : Str) ++ z ++ (⟨#[34]⟩ : Str)) = _
  rw [tl_app, tl_app]
  rfl
theorem cst_none : cstL .non = noneL := by decide +kernel
/-- the signs of constants -/
def good (c : Nat) : Prop := (97 ≤ c ∧ c ≤ 122) ∨ (48 ≤ c ∧ c ≤ 57) ∨ c = 45 ∨ c = 34
theorem const_good {t : List Nat} (h : isConstL t = true) : ∀ c ∈ t, good c := by
  intro c hc
  unfold isConstL at h
  split at h
  · rename_i hq
    obtain ⟨h2, h3, h4⟩ := hq
    match t, h2, h3, h4, h, hc with
    | a :: r, h2, h3, h4, h, hc =>
      have ha : a = 34 := by simpa using h3
      rcases List.mem_cons.mp hc with rfl | hc
      · exact .inr (.inr (.inr ha))
      · have hr : r ≠ [] := by rintro rfl; simp at h2
        have hl : r.getLast? = some 34 := by rw [List.getLast?_cons_of_ne_nil hr] at h4; exact h4
        have hl2 : r.getLast hr = 34 := by
          rw [List.getLast?_eq_some_getLast hr] at hl
          exact Option.some.inj hl
        rw [← List.dropLast_concat_getLast hr, hl2] at hc
        rcases List.mem_append.mp hc with hc | hc
        · unfold isWordL at h
          rw [Bool.and_eq_true, List.all_eq_true] at h
          exact .inl (small_mem.mp (of_decide_eq_true (h.2 c hc)))
        · exact .inr (.inr (.inr (List.mem_singleton.mp hc)))
  · rw [Bool.or_eq_true] at h
    rcases h with h | h
    · have : t = noneL := of_decide_eq_true h
      rw [this] at hc
      simp [noneL] at hc
      unfold good
      omega
    · unfold isNumL at h
      rw [Bool.and_eq_true, Bool.and_eq_true, Bool.and_eq_true] at h
      have h2 := h.2.1
      rw [List.all_eq_true] at h2
      unfold numBody at h2
      split at h2
      · rename_i h45
        match t, h45, h2, hc with
        | a :: r, h45, h2, hc =>
          have ha : a = 45 := by simpa using h45
          rcases List.mem_cons.mp hc with rfl | hc
          · exact .inr (.inr (.inl ha))
          · exact .inr (.inl (dig_mem.mp (of_decide_eq_true (h2 c hc))))
      · exact .inr (.inl (dig_mem.mp (of_decide_eq_true (h2 c hc))))
theorem const_bad {t : List Nat} {c : Nat} (hc : c ∈ t) (h : ¬ good c) : isConstL t = false := by
  cases e : isConstL t with
  | false => rfl
  | true => exact absurd (const_good e c hc) h
theorem const_nil : isConstL [] = false := by decide
theorem cst_const {v : V} (h : Cst v) : isConstL (cstL v) = true := by
  cases v with
  | non => rw [cst_none]; decide
  | int i =>
    have h : i.natAbs < 10 ^ 30 := h
    have hn := isNum_int h
    have e : cstL (.int i) = tl (Str.ofString (toString i)) := rfl
    rw [e]
    unfold isConstL
    rw [if_neg, hn, Bool.or_true]
    rintro ⟨_, h3, _⟩
    rw [int_text] at h3
    split at h3
    · have : 45 = 34 := Option.some.inj h3
      omega
    · have : 34 ∈ TL.numL i.natAbs := List.mem_of_mem_head? (by rw [h3]; rfl)
      have := TL.numL_digits _ _ this
      omega
  | str z =>
    have h : Word 8 z := h
    rw [cst_str]
    unfold isConstL
    rw [if_pos ⟨by simp, rfl, by rw [show (34 :: (tl z ++ [34]) : List Nat) = (34 :: tl z) ++ [34] from rfl]; exact List.getLast?_concat ..⟩]
    show isWordL (tl z ++ [34]).dropLast 8 = true
    rw [List.dropLast_concat]
    exact word_L h
  | _ => exact h.elim
theorem const_ne {t : List Nat} (h : isConstL t = true) : t ≠ [] := by
  rintro rfl
  rw [const_nil] at h
  cases h
theorem cst_len {v : V} (h : Cst v) : (cstL v).length ≤ 40 := by
  cases v with
  | non => rw [cst_none]; decide
  | int i =>
    have h : i.natAbs < 10 ^ 30 := h
    have hlen := TL.numL_len (k := 30) (by decide) h
    show (tl (Str.ofString (toString i))).length ≤ 40
    rw [int_text]
    split
    · rw [List.length_cons]; omega
    · omega
  | str z =>
    have h : Word 8 z := h
    have := h.1
    rw [cst_str, List.length_cons, List.length_append, tl_length]
    show z.length + 1 + 1 ≤ 40
    omega
  | _ => exact h.elim

/-! ### cutting at the commas -/
abbrev sep : List Nat := [44, 32]
/-- p, then c, which does not begin a comma and a blank: the first word holds c -/
theorem spl_first {p q : List Nat} {c : Nat} (hp : 44 ∉ p) (hc : TL.pre sep (c :: q) = false) : ∀ acc : List Nat, ∃ w ∈ TL.spl sep 0 acc (p ++ c :: q), c ∈ w := by
  induction p with
  | nil =>
    intro acc
    show ∃ w ∈ TL.spl sep 0 acc (c :: q), c ∈ w
    rw [TL.spl_miss hc]
    have key : ∀ (l acc : List Nat), c ∈ acc → ∃ w ∈ TL.spl sep 0 acc l, c ∈ w := by
      intro l
      induction l with
      | nil => intro acc h; exact ⟨acc, by rw [TL.spl_nil]; exact List.mem_singleton.mpr rfl, h⟩
      | cons d r ih =>
        intro acc h
        by_cases hd : TL.pre sep (d :: r) = true
        · rw [TL.spl_hit hd]
          exact ⟨acc, List.mem_cons_self .., h⟩
        · rw [TL.spl_miss (by simpa using hd)]
          exact ih _ (List.mem_append_left _ h)
    exact key q _ (List.mem_append_right _ (List.mem_singleton.mpr rfl))
  | cons d r ih =>
    intro acc
    show ∃ w ∈ TL.spl sep 0 acc (d :: (r ++ c :: q)), c ∈ w
    have hd : TL.pre sep (d :: (r ++ c :: q)) = false := TL.pre_of_head _ _ fun e => hp (by rw [← e]; exact List.mem_cons_self ..)
    rw [TL.spl_miss hd]
    exact ih (fun h => hp (List.mem_cons_of_mem _ h)) _
/-- the last word is empty or ends as the text does -/
theorem spl_end (q : List Nat) (c : Nat) : ∃ w ∈ TL.spl sep 0 [] (q ++ [c]), w = [] ∨ c ∈ w := by
  have key : ∀ (q acc : List Nat), (∃ w ∈ TL.spl sep 0 acc (q ++ [c]), w = [] ∨ c ∈ w) ∧ (∃ w ∈ TL.spl sep 1 [] (q ++ [c]), w = [] ∨ c ∈ w) := by
    intro q
    induction q with
    | nil =>
      intro acc
      constructor
      · show ∃ w ∈ TL.spl sep 0 acc [c], w = [] ∨ c ∈ w
        rw [TL.spl_miss (by unfold TL.pre; simp), TL.spl_nil]
        exact ⟨_, List.mem_singleton.mpr rfl, .inr (List.mem_append_right _ (List.mem_singleton.mpr rfl))⟩
      · show ∃ w ∈ TL.spl sep 0 [] [], w = [] ∨ c ∈ w
        rw [TL.spl_nil]
        exact ⟨_, List.mem_singleton.mpr rfl, .inl rfl⟩
    | cons d r ih =>
      intro acc
      constructor
      · show ∃ w ∈ TL.spl sep 0 acc (d :: (r ++ [c])), w = [] ∨ c ∈ w
        by_cases hd : TL.pre sep (d :: (r ++ [c])) = true
        · rw [TL.spl_hit hd]
          obtain ⟨w, h1, h2⟩ := (ih []).2
          exact ⟨w, List.mem_cons_of_mem _ h1, h2⟩
        · rw [TL.spl_miss (by simpa using hd)]
          exact (ih _).1
      · exact (ih []).1
  exact (key q []).1
theorem spl_sep (p q : List Nat) (h : 44 ∉ p) : TL.spl sep 0 [] (p ++ 44 :: 32 :: q) = p :: TL.spl sep 0 [] q := TL.spl_part1 (S := [32]) (acc := []) h

/-! ### calls -/
theorem words_ne {r : List Nat} (h : r ≠ []) : wordsL r = TL.spl sep 0 [] r := if_neg h
theorem call_at {name r : List Nat} (h : 40 ∉ name) : isCallL (name ++ 40 :: (r ++ [41])) = (isNameL name && (decide ((wordsL r).length ≤ 3) && (wordsL r).all isConstL)) := by
  have e1 : (name ++ 40 :: (r ++ [41])).getLast? = some 41 := by
    rw [show name ++ 40 :: (r ++ [41]) = (name ++ 40 :: r) ++ [41] by simp]
    exact List.getLast?_concat ..
  have e2 : (name ++ 40 :: (r ++ [41])).dropLast = name ++ ([40] ++ r) := by
    rw [show name ++ 40 :: (r ++ [41]) = (name ++ 40 :: r) ++ [41] by simp, List.dropLast_concat]
    rfl
  have e3 : TL.par [40] [] (name ++ ([40] ++ r)) = some (name, r) := TL.par_part1 (S := []) (acc := []) h
  unfold isCallL
  rw [e1, e2, e3]
  rfl
theorem call_bad {name r w : List Nat} (h : 40 ∉ name) (hr : r ≠ []) (hw : w ∈ TL.spl sep 0 [] r) (hb : isConstL w = false) : isCallL (name ++ 40 :: (r ++ [41])) = false := by
  rw [call_at h, words_ne hr]
  have : (TL.spl sep 0 [] r).all isConstL = false := by
    cases e : (TL.spl sep 0 [] r).all isConstL with
    | false => rfl
    | true =>
      rw [List.all_eq_true] at e
      rw [e w hw] at hb
      cases hb
  rw [this, Bool.and_false, Bool.and_false]
theorem call_end {t : List Nat} (h : t.getLast? ≠ some 41) : isCallL t = false := by
  unfold isCallL
  rw [decide_eq_false h, Bool.false_and]
theorem call_none {t : List Nat} (h : 40 ∉ t) : isCallL t = false := by
  unfold isCallL
  rw [TL.par_none1 (s := 40) (S := []) (acc := []) (p := t.dropLast) fun hm => h ((List.dropLast_sublist _).subset hm), Bool.and_false]
/-- a joined text is cut into its parts -/
theorem spl_parts : ∀ {parts : List (List Nat)}, parts ≠ [] → (∀ p ∈ parts, SX.free sep p = true) → TL.spl sep 0 [] (TL.joinL sep parts) = parts
  | [], h, _ => absurd rfl h
  | [p], _, hp => by
    show TL.spl sep 0 [] p = [p]
    have hf := hp p (List.mem_singleton.mpr rfl)
    have := TL.spl_last (S := sep) (p := p) (acc := []) fun i hi => ?_
    · simpa using this
    · have z := SX.free_at (sep := sep) hf [] i hi
      cases e : TL.pre sep (p.drop i) with
      | false => rfl
      | true =>
        have e2 : (p ++ (sep ++ [])).drop i = p.drop i ++ sep := by
          rw [List.append_nil, List.drop_append_of_le_length (by omega)]
        rw [e2] at z
        unfold TL.pre at e z
        have e3 := eq_of_beq e
        have hl : sep.length ≤ (p.drop i).length := by
          have := congrArg List.length e3
          rw [List.length_take] at this
          omega
        rw [List.take_append_of_le_length hl, e3] at z
        simp at z
  | p :: q :: r, _, hp => by
    show TL.spl sep 0 [] (p ++ (sep ++ TL.joinL sep (q :: r))) = p :: q :: r
    rw [SX.spl_free _ (by simp) (hp p (List.mem_cons_self ..)), spl_parts (by simp) fun x hx => hp x (List.mem_cons_of_mem _ hx)]
theorem join_ne : ∀ {parts : List (List Nat)}, parts ≠ [] → (∀ p ∈ parts, p ≠ []) → TL.joinL sep parts ≠ []
  | [], h, _ => absurd rfl h
  | [p], _, hp => hp p (List.mem_singleton.mpr rfl)
  | p :: q :: r, _, hp => by
    show p ++ (sep ++ TL.joinL sep (q :: r)) ≠ []
    simp
theorem words_join {parts : List (List Nat)} (h1 : ∀ p ∈ parts, SX.free sep p = true) (h2 : ∀ p ∈ parts, p ≠ []) : wordsL (TL.joinL sep parts) = parts := by
  cases parts with
  | nil => rfl
  | cons p r => rw [words_ne (join_ne (by simp) h2), spl_parts (by simp) h1]
/-- THE LAW of calls: parts between commas -/
theorem call_main {name : List Nat} {parts : List (List Nat)} (h : 40 ∉ name) (h1 : ∀ p ∈ parts, SX.free sep p = true) (h2 : ∀ p ∈ parts, p ≠ []) :
    isCallL (name ++ 40 :: (TL.joinL sep parts ++ [41])) = (isNameL name && (decide (parts.length ≤ 3) && parts.all isConstL)) := by
  rw [call_at h, words_join h1 h2]
theorem name_small {t : List Nat} (h : isNameL t = true) : t ≠ [] ∧ t.length ≤ 12 ∧ ∀ c ∈ t, 97 ≤ c ∧ c ≤ 122 := by
  unfold isNameL isWordL at h
  simp only [Bool.and_eq_true, decide_eq_true_eq, List.all_eq_true] at h
  exact ⟨h.2.1, h.1.1, fun c hc => small_mem.mp (h.1.2 c hc)⟩
theorem cst_free {v : V} (h : Cst v) : SX.free sep (cstL v) = true := SX.free_head fun hm => by
  have := const_good (cst_const h) 44 hm
  unfold good at this
  omega
/-! ### parts of calls that may be wrong -/
structure PartB (t : List Nat) (ok : Bool) : Prop where
  ne : t ≠ []
  o : 40 ∉ t
  s : 41 ∉ t
  free : SX.free sep t = true
  is : isConstL t = ok
  len : t.length ≤ 6000
  low : ∀ c ∈ t, c < 1114112
def partB (t : List Nat) (ok : Bool) : Bool := decide (t ≠ []) && (!decide (40 ∈ t) && (!decide (41 ∈ t) && (SX.free sep t && (decide (isConstL t = ok) && (decide (t.length ≤ 6000) && t.all fun c => decide (c < 1114112))))))
theorem partB_ok {t : List Nat} {ok : Bool} (h : partB t ok = true) : PartB t ok := by
  unfold partB at h
  simp only [Bool.and_eq_true, Bool.not_eq_true', decide_eq_true_eq, decide_eq_false_iff_not, List.all_eq_true] at h
  obtain ⟨h1, h2, h3, h4, h5, h6, h7⟩ := h
  exact ⟨h1, h2, h3, h4, h5, h6, h7⟩
theorem partB_cst {v : V} (h : Cst v) : PartB (cstL v) true := by
  have hg := const_good (cst_const h)
  have key : ∀ c, c ∈ cstL v → good c := fun c hc => hg c hc
  refine ⟨const_ne (cst_const h), fun hm => ?_, fun hm => ?_, cst_free h, cst_const h, Nat.le_trans (cst_len h) (by decide), fun c hc => ?_⟩
  · have := key _ hm; unfold good at this; omega
  · have := key _ hm; unfold good at this; omega
  · have := key _ hc; unfold good at this; omega
theorem mul_tl {c : Nat} {n : Int} (h : 1 < n) : tl (Txt.mul ⟨#[c]⟩ n) = List.replicate n.toNat c := by
  have h1 : ¬ n < 1 := by omega
  have h2 : ¬ ((n == 1 || (⟨#[c]⟩ : Str).length == 0) = true) := by
    have : ¬ n = 1 := by omega
    simp [this, Str.length]
  unfold Txt.mul
  rw [if_neg h1, if_neg h2]
  have key : ∀ (k : Nat) (acc : Array Nat), ((List.replicate k (⟨#[c]⟩ : Str).cps).foldl (· ++ ·) acc).toList = acc.toList ++ List.replicate k c := by
    intro k
    induction k with
    | zero => intro acc; simp
    | succ k ih => intro acc; rw [List.replicate_succ, List.foldl_cons, ih]; simp [List.replicate_succ]
  show ((List.replicate n.toNat (⟨#[c]⟩ : Str).cps).foldl (· ++ ·) #[]).toList = _
  rw [key]
  rfl
theorem partB_long {c : Nat} {n : Nat} (pre : List Nat) (hp : pre = [] ∨ pre = [45]) (hc : 48 ≤ c ∧ c ≤ 57) (hn : 30 < n) (h2 : n ≤ 5000) : PartB (pre ++ List.replicate n c) false := by
  have hm : ∀ d ∈ pre ++ List.replicate n c, d = 45 ∨ d = c := by
    intro d hd
    rcases List.mem_append.mp hd with hd | hd
    · rcases hp with rfl | rfl
      · cases hd
      · exact .inl (List.mem_singleton.mp hd)
    · exact .inr (List.eq_of_mem_replicate hd)
  have hb : numBody (pre ++ List.replicate n c) = List.replicate n c := by
    rcases hp with rfl | rfl
    · unfold numBody
      rw [if_neg]
      · rfl
      · intro e
        have := hm 45 (List.mem_of_mem_head? (by rw [e]; rfl))
        have e2 : c = 45 := by
          have e' : (List.replicate n c).head? = some 45 := e
          rw [List.head?_replicate, if_neg (by omega)] at e'
          exact Option.some.inj e'
        omega
    · rfl
  refine ⟨fun e => ?_, fun h => ?_, fun h => ?_, SX.free_head fun h => ?_, ?_, ?_, fun d hd => ?_⟩
  · have := congrArg List.length e
    rw [List.length_append, List.length_replicate] at this
    simp at this
    omega
  · have := hm _ h; omega
  · have := hm _ h; omega
  · have := hm _ h; omega
  · unfold isConstL
    rw [if_neg]
    · unfold isNumL
      rw [hb, List.length_replicate, decide_eq_false (show ¬ n ≤ 30 by omega), Bool.and_false, Bool.false_and, Bool.or_false]
      refine decide_eq_false fun e => ?_
      have := hm 110 (by rw [e]; decide)
      omega
    · rintro ⟨_, h, _⟩
      have := hm 34 (List.mem_of_mem_head? (by rw [h]; rfl))
      omega
  · rw [List.length_append, List.length_replicate]
    rcases hp with rfl | rfl
    · simp; omega
    · simp; omega
  · have := hm _ hd; omega

/-! ### spoilt calls -/
theorem join_mem0 {c : Nat} : ∀ {parts : List (List Nat)}, c ∈ TL.joinL sep parts → c = 44 ∨ c = 32 ∨ ∃ p ∈ parts, c ∈ p
  | [], h => by cases h
  | [p], h => .inr (.inr ⟨p, List.mem_singleton.mpr rfl, h⟩)
  | p :: q :: r, h => by
    have h : c ∈ p ++ (sep ++ TL.joinL sep (q :: r)) := h
    rcases List.mem_append.mp h with h | h
    · exact .inr (.inr ⟨p, List.mem_cons_self .., h⟩)
    · rcases List.mem_append.mp h with h | h
      · simp at h
        omega
      · rcases join_mem0 h with h | h | ⟨x, hx, h⟩
        · exact .inl h
        · exact .inr (.inl h)
        · exact .inr (.inr ⟨x, List.mem_cons_of_mem _ hx, h⟩)

theorem join_last {c : Nat} (h41 : c = 41) : ∀ {parts : List (List Nat)}, (∀ p ∈ parts, c ∉ p) → c ∉ TL.joinL sep parts := by
  intro parts h hm
  rcases join_mem0 hm with e | e | ⟨p, hp, e⟩
  · omega
  · omega
  · exact h p hp e
theorem name_no {t : List Nat} (h : isNameL t = true) {c : Nat} (hc : c < 97) : c ∉ t := fun hm => by
  have := (name_small h).2.2 c hm
  omega
theorem bad_first {name q : List Nat} {c : Nat} (h : 40 ∉ name) (h44 : c ≠ 44) (hb : ¬ good c) : isCallL (name ++ 40 :: ((c :: q) ++ [41])) = false := by
  obtain ⟨w, hw, hc⟩ := spl_first (p := []) (q := q) (c := c) (by simp) (TL.pre_of_head _ _ h44) []
  exact call_bad h (by simp) hw (const_bad hc hb)
theorem bad_last {name q : List Nat} {c : Nat} (h : 40 ∉ name) (hb : ¬ good c) : isCallL (name ++ 40 :: ((q ++ [c]) ++ [41])) = false := by
  obtain ⟨w, hw, hc⟩ := spl_end q c
  refine call_bad h (by simp) hw ?_
  rcases hc with rfl | hc
  · exact const_nil
  · exact const_bad hc hb
theorem bad_at {name p q : List Nat} {c : Nat} (h : 40 ∉ name) (hp : 44 ∉ p) (hc : TL.pre sep (c :: q) = false) (hb : ¬ good c) : isCallL (name ++ 40 :: ((p ++ c :: q) ++ [41])) = false := by
  obtain ⟨w, hw, hcw⟩ := spl_first (p := p) (q := q) (c := c) hp hc []
  exact call_bad h (by simp) hw (const_bad hcw hb)
theorem bad_next {name p q w : List Nat} (h : 40 ∉ name) (hp : 44 ∉ p) (hw : w ∈ TL.spl sep 0 [] q) (hb : isConstL w = false) : isCallL (name ++ 40 :: ((p ++ 44 :: 32 :: q) ++ [41])) = false :=
  call_bad h (by simp) (by rw [spl_sep p q hp]; exact List.mem_cons_of_mem _ hw) hb
theorem good_not {c : Nat} (h : good c) : c ≠ 44 ∧ c ≠ 32 ∧ c ≠ 40 ∧ c ≠ 41 ∧ c ≠ 59 := by
  unfold good at h
  omega
/-- two right constants and something else than a comma and a blank between them -/
theorem bad_comma {name p1 p2 cm rest : List Nat} (h : 40 ∉ name) (h1 : isConstL p1 = true) (h2 : isConstL p2 = true)
    (hc : cm = [44] ∨ cm = [32, 44] ∨ cm = [32, 44, 32] ∨ cm = [44, 32, 32] ∨ cm = [32] ∨ cm = [59] ∨ cm = [44, 32, 44, 32]) : isCallL (name ++ 40 :: ((p1 ++ (cm ++ (p2 ++ rest))) ++ [41])) = false := by
  have n44 : 44 ∉ p1 := fun hm => (good_not (const_good h1 _ hm)).1 rfl
  obtain ⟨d, r, hd⟩ : ∃ d r, p2 = d :: r := by
    cases e : p2 with
    | nil => exact absurd e (const_ne h2)
    | cons d r => exact ⟨d, r, rfl⟩
  have gd := good_not (const_good h2 d (by rw [hd]; exact List.mem_cons_self ..))
  have nb : ∀ c, c = 44 ∨ c = 32 ∨ c = 59 → ¬ good c := by
    intro c hc hg
    have := good_not hg
    omega
  rcases hc with rfl | rfl | rfl | rfl | rfl | rfl | rfl
  · refine bad_at (c := 44) h n44 ?_ (nb _ (.inl rfl))
    rw [hd]
    unfold TL.pre
    show (([44, d] : List Nat) == [44, 32]) = false
    rw [beq_eq_false_iff_ne]
    intro e
    have : d = 32 := by simpa using e
    omega
  · exact bad_at (c := 32) (q := 44 :: (p2 ++ rest)) h n44 (TL.pre_of_head _ _ (by decide)) (nb _ (.inr (.inl rfl)))
  · exact bad_at (c := 32) (q := 44 :: 32 :: (p2 ++ rest)) h n44 (TL.pre_of_head _ _ (by decide)) (nb _ (.inr (.inl rfl)))
  · obtain ⟨w, hw, hcw⟩ := spl_first (p := []) (q := p2 ++ rest) (c := 32) (by simp) (TL.pre_of_head _ _ (by decide)) []
    exact bad_next (q := 32 :: (p2 ++ rest)) h n44 hw (const_bad hcw (nb _ (.inr (.inl rfl))))
  · exact bad_at (c := 32) (q := p2 ++ rest) h n44 (TL.pre_of_head _ _ (by decide)) (nb _ (.inr (.inl rfl)))
  · exact bad_at (c := 59) (q := p2 ++ rest) h n44 (TL.pre_of_head _ _ (by decide)) (nb _ (.inr (.inr rfl)))
  · exact bad_next (q := 44 :: 32 :: (p2 ++ rest)) (w := []) h n44 (by rw [show (44 :: 32 :: (p2 ++ rest) : List Nat) = [] ++ 44 :: 32 :: (p2 ++ rest) from rfl, spl_sep [] _ (by simp)]; exact List.mem_cons_self ..) const_nil

/-! ### more of the layer -/
section
variable {X : Cx} {k j : Nat} {x : Str} {sp : Sp} {p pos : Pos}
theorem pe_cA0 (c : Cal X.prog X.w X.K X.mg X.base k x sp) (hr : Room j X.A) (hk : k ≤ j) (hg : Gl X x) (hdb : (x == ("__debug__" : Str)) = false := by decide) :
    PE X (.Call (.Name x p) [] [] pos) (tCall sp [] L2.E0 tNil) := by
  obtain ⟨f, fd, ps, F, hm, kp, b⟩ := c.ex
  exact pe_call0 F (hr.mono hk) hg hm kp b .nil L2.pass0 hdb
def rStrA : List V → Hp → VK → Prop := fun xs H Q => ∃ i, xs = [.int i] ∧ i.natAbs.log2 < 1920 ∧ Q (.str (Str.ofString (toString i))) H
theorem call_strA : CallR X (.type "str") rStrA := call_str_int
end
theorem r_str {H : Hp} {Q : VK} {i : Int} (h : i.natAbs < 10 ^ 100) (q : Q (.str (Str.ofString (toString i))) H) : rStrA [.int i] H Q := ⟨i, rfl, Nat.lt_of_lt_of_le (PySem.Flt.log2_lt_of (k := 400) (by decide) (Nat.lt_of_lt_of_le h (by decide))) (by decide), q⟩
/-- a call as a text, and what it is made of -/
def CallOk (z : Str) : Prop := ∃ (name : List Nat) (vs : List V), isNameL name = true ∧ (∀ v ∈ vs, Cst v) ∧ vs.length ≤ 3 ∧ tl z = name ++ 40 :: (TL.joinL sep (vs.map cstL) ++ [41])
theorem CallOk.is {z : Str} (h : CallOk z) : isCallL (tl z) = true := by
  obtain ⟨name, vs, h1, h2, h3, h4⟩ := h
  rw [h4, call_main, h1, List.length_map, decide_eq_true h3, Bool.true_and, Bool.true_and, List.all_map, List.all_eq_true]
  · exact fun v hv => cst_const (h2 v hv)
  · intro hm
    have := (name_small h1).2.2 40 hm
    omega
  · intro p hp
    obtain ⟨v, hv, rfl⟩ := List.mem_map.mp hp
    exact cst_free (h2 v hv)
  · intro p hp
    obtain ⟨v, hv, rfl⟩ := List.mem_map.mp hp
    exact const_ne (cst_const (h2 v hv))
theorem join_mem {c : Nat} {parts : List (List Nat)} (h : c ∈ TL.joinL sep parts) : c = 44 ∨ c = 32 ∨ ∃ p ∈ parts, c ∈ p := join_mem0 h
theorem join_len {m : Nat} : ∀ {parts : List (List Nat)}, (∀ p ∈ parts, p.length ≤ m) → (TL.joinL sep parts).length ≤ parts.length * (m + 2)
  | [], _ => by simp [TL.joinL]
  | [p], h => by
    have := h p (List.mem_singleton.mpr rfl)
    show p.length ≤ 1 * (m + 2)
    omega
  | p :: q :: r, h => by
    have h1 := h p (List.mem_cons_self ..)
    have h2 := join_len (m := m) (parts := q :: r) fun x hx => h x (List.mem_cons_of_mem _ hx)
    show (p ++ (sep ++ TL.joinL sep (q :: r))).length ≤ (r.length + 1 + 1) * (m + 2)
    rw [List.length_append, List.length_append]
    rw [List.length_cons] at h2
    have : (r.length + 1 + 1) * (m + 2) = (r.length + 1) * (m + 2) + (m + 2) := Nat.succ_mul _ _
    show p.length + (2 + _) ≤ _
    omega
theorem CallOk.fit {z : Str} (h : CallOk z) : fit (.str z) = true := by
  obtain ⟨name, vs, h1, h2, h3, h4⟩ := h
  obtain ⟨n1, n2, n3⟩ := name_small h1
  have hj := join_len (m := 40) (parts := vs.map cstL) fun p hp => by
    obtain ⟨v, hv, rfl⟩ := List.mem_map.mp hp
    exact cst_len (h2 v hv)
  rw [List.length_map] at hj
  refine fit_of ?_ ?_
  · rw [h4, List.length_append, List.length_cons, List.length_append]
    show name.length + (_ + 1 + 1) ≤ _
    omega
  · intro c hc
    rw [h4] at hc
    rcases List.mem_append.mp hc with hc | hc
    · have := n3 c hc; omega
    · rcases List.mem_cons.mp hc with hc | hc
      · omega
      · rcases List.mem_append.mp hc with hc | hc
        · rcases join_mem hc with h | h | ⟨p, hp, h⟩
          · omega
          · omega
          · obtain ⟨v, hv, rfl⟩ := List.mem_map.mp hp
            have := const_good (cst_const (h2 v hv)) c h
            unfold good at this
            omega
        · have := List.mem_singleton.mp hc; omega
theorem cst_fit {v : V} (h : Cst v) : fit (.str (cstS v)) = true := by
  refine fit_of (Nat.le_trans (cst_len h) (by decide)) fun c hc => ?_
  have := const_good (cst_const h) c hc
  unfold good at this
  omega
end WP

set_option Elab.async false
set_option linter.all false
set_option maxRecDepth 100000
set_option maxHeartbeats 4000000
namespace WP
open PySem PySem.Spec PyProof.Rows L2
/-! ### calls with keywords: the values are written in the parameters' order -/
structure CalK (P : Program) (w : World) (K : PySem.W.Frag) (mg : Str → Option Value) (base : Heap) (k : Nat) (x : Str) (sp : Sp) (n : Nat) (ks : List Str) : Prop where
  ex : ∃ (f : Addr) (fd : FuncData) (ps : List Str), FnOk P w K mg base L2.CX0 k f fd ps sp ∧ mg x = some (.ref f) ∧ PySem.W.keepIn K (.ref f) = true ∧ KBn K fd ps n ks (fun us ws => us ++ ws) (fun vs zs => vs ++ zs)
def tCallW (n m : Nat) (sp : Sp) (t tk : TA) : TE := fun σ H Q => t σ H fun vs H1 => tk σ H1 fun zs H2 => vs.length = n ∧ zs.length = m ∧ sp (vs ++ zs) H2 Q L2.E0
theorem r_callW {n m : Nat} {sp : Sp} {t tk : TA} {σ : L2.St} {H : Hp} {Q : VK} (q : t σ H fun vs H1 => tk σ H1 fun zs H2 => vs.length = n ∧ zs.length = m ∧ sp (vs ++ zs) H2 Q L2.E0) : tCallW n m sp t tk σ H Q := q
section
variable {X : Cx} {k j n : Nat} {x : Str} {sp : Sp} {ks : List Str} {p pos : Pos} {e : Expr} {es : List Expr} {kws : List Keyword} {t tk : TA}
theorem pe_cK (c : CalK X.prog X.w X.K X.mg X.base k x sp n ks) (hr : Room j X.A) (hk : k ≤ j) (hg : Gl X x) (ha : PA X (e :: es) t) (hkw : PK X kws tk)
    (hall : (backToKw pos (keywordEach kws X.env)).all (·.1.isSome) = true := by rfl) (hks : (backToKw pos (keywordEach kws X.env)).filterMap (·.1) = ks := by rfl)
    (hdb : (x == ("__debug__" : Str)) = false := by decide) (he : starEach (e :: es) X.env = (false, eval e X.env) :: starEach es X.env := by rfl)
    (hpl : ((backTo pos (starEach (e :: es) X.env)).any (·.1) || (backToKw pos (keywordEach kws X.env)).any (·.1.isNone)) = false := by rfl) :
    PE X (.Call (.Name x p) (e :: es) kws pos) (tCallW n ks.length sp t tk) := by
  obtain ⟨f, fd, ps, F, hm, kp, b⟩ := c.ex
  exact pe_callN F (hr.mono hk) hg hm kp b L2.pass0 ha hkw hall hks hdb he hpl
theorem pe_cK0 (c : CalK X.prog X.w X.K X.mg X.base k x sp 0 ks) (hr : Room j X.A) (hk : k ≤ j) (hg : Gl X x) (hkw : PK X kws tk)
    (hall : (backToKw pos (keywordEach kws X.env)).all (·.1.isSome) = true := by rfl) (hks : (backToKw pos (keywordEach kws X.env)).filterMap (·.1) = ks := by rfl)
    (hdb : (x == ("__debug__" : Str)) = false := by decide)
    (hpl : ((backTo pos (starEach [] X.env)).any (·.1) || (backToKw pos (keywordEach kws X.env)).any (·.1.isNone)) = false := by rfl) :
    PE X (.Call (.Name x p) [] kws pos) (tCallW 0 ks.length sp tNil tk) := by
  obtain ⟨f, fd, ps, F, hm, kp, b⟩ := c.ex
  refine ⟨fun pins s σ H Q I h => ?_⟩
  refine wpAny_Call_Name_kw (ld_glob I hg hm ?_ hdb)
  refine PySem.W.callWith_KW0 (h₀ := X.base) I.ok.mod.kin kp hall (thn (hkw.run pos pins s σ H _ I h) fun ws s2 ⟨zs, H2, I2, rz, l1, l2, q2⟩ => ⟨I2.kIn, ?_⟩) hpl
  rw [hks]
  exact run_fnN F (hr.mono hk) b L2.pass0 I2 .nil rz l1 l2 q2
end
section
variable {P : Program} {w : World} {K : PySem.W.Frag} {mg : Str → Option Value} {base : Heap}
theorem Vals.app {vs zs : List V} {us ws : List Value} (h1 : Vals vs us) (h2 : Vals zs ws) : Vals (vs ++ zs) (us ++ ws) := h1.append h2
/-- all parameters are written, by place and by name -/
theorem calK_of {x : Str} {st : Stmt} {N ps : List Str} {k : Nat} {sp : Sp} {kws : List (Str × V)} (F : AtD K mg x st [] kws) (S : FnScope N ps (defScope st)) (len : ∀ vs H Q E, sp vs H Q E → vs.length = ps.length)
    (hbody : ∀ (f : Addr) (cdv : Value) (A : Around) (outer : List Env) (s : Shared) (H : Hp) (vs : List V) (Q : VK) (E : XK), Room k (A.deeper (envOfC x (defScope st) s.heap.objs.size f cdv)) → sp vs H Q E →
      ∃ t, PSs (cxOf L2.CX0 P w K mg base N x (defScope st) f cdv A outer s H E).nox (defBody st) t ∧ t { nx := fun _ H' => Q .non H', rt := Q } (start N vs) H) (n : Nat) (ks : List Str)
    (hb : ∀ (kV doc pm : Value) (an : Option Addr) (cdv ct : Value) (us ws : List Value), us.length = n → ws.length = ks.length →
      bindArgs (PySem.W.fnOf x x (defArgs st) (defBody st) (defScope st) .none kV doc pm an cdv ct) ⟨us, ks.zip ws⟩ = pure (ps.zip (us ++ ws))) : CalK P w K mg base (k + 1) x sp n ks := by
  obtain ⟨f, fd, F, m⟩ := F.ex
  refine ⟨f, fd, ps, F.ok S len fun cdv A outer s H vs Q E hr hsp => ?_, m, F.kp, ?_⟩
  · obtain ⟨t, h, q⟩ := hbody f cdv A outer s H vs Q E hr hsp
    exact ⟨t, h.nox, q⟩
  · obtain ⟨oc, od, dV, kV, doc, pm, an, cdv, ct, osl, rfl, lk, hcd, hD, hK⟩ := F.ex
    rcases hD with ⟨_, rfl⟩ | ⟨e, _⟩
    · exact ⟨fun s us ws _ h1 h2 => BindsTo.of_eq (hb kV doc pm an cdv ct us ws h1 h2), fun h1 h2 => Vals.app h1 h2⟩
    · exact absurd rfl e
/-- the keyword-only ones are left out -/
theorem calD0_of {x : Str} {st : Stmt} {N ps : List Str} {k : Nat} {sp : Sp} {kws : List (Str × V)} (F : AtD K mg x st [] kws) (S : FnScope N ps (defScope st)) (len : ∀ vs H Q E, sp vs H Q E → vs.length = ps.length)
    (hbody : ∀ (f : Addr) (cdv : Value) (A : Around) (outer : List Env) (s : Shared) (H : Hp) (vs : List V) (Q : VK) (E : XK), Room k (A.deeper (envOfC x (defScope st) s.heap.objs.size f cdv)) → sp vs H Q E →
      ∃ t, PSs (cxOf L2.CX0 P w K mg base N x (defScope st) f cdv A outer s H E).nox (defBody st) t ∧ t { nx := fun _ H' => Q .non H', rt := Q } (start N vs) H) (n : Nat) (hk : kws ≠ []) (hn : n + kws.length = ps.length)
    (hb : ∀ (D : Addr) (doc pm : Value) (an : Option Addr) (cdv ct : Value) (us ks : List Value), us.length = n → ks.length = kws.length →
      KwChain D ((kws.map (·.1)).zip ks) (bindArgs (PySem.W.fnOf x x (defArgs st) (defBody st) (defScope st) .none (.ref D) doc pm an cdv ct) ⟨us, []⟩) (ps.zip (us ++ ks))) : CalD P w K mg base (k + 1) x sp (kws.map (·.2)) := by
  obtain ⟨f, fd, F, m⟩ := F.ex
  obtain ⟨ds, hv, b⟩ := F.binds0 n hk hn hb
  refine ⟨f, fd, ps, ds, F.ok S len fun cdv A outer s H vs Q E hr hsp => ?_, m, F.kp, b, hv⟩
  obtain ⟨t, h, q⟩ := hbody f cdv A outer s H vs Q E hr hsp
  exact ⟨t, h.nox, q⟩
end
/-! ### paths -/
def isPathD (ag : Bool) : PyData → Bool
  | .tuple xs => !(decide (xs.length = 0) || (!ag && decide (1 < xs.length))) && xs.all isCallD
  | _ => false
end WP

set_option Elab.async false
set_option linter.all false
set_option maxRecDepth 100000
set_option maxHeartbeats 4000000
namespace WP
open PySem PySem.Spec PyProof.Rows L2
/-! ### super().__init__(text) in an own exception's __init__ -/
/-- what the written part says: the class C of the exception, D where the __init__ stands, f the __init__, c its code, cc its cell of __class__ -/
structure SupIn (P : Program) (K : PySem.W.Frag) (B i : String) (C D c cc : Addr) : Prop where
  code : ∃ ccl cdd vs ccs file tf, K.lookup c = some ⟨ccl, cdd, .fields vs, ccs⟩ ∧ vs[2]? = some (.str file tf) ∧ (P.main.file == file) = true
  cell : ∃ cl cld csl, K.lookup cc = some ⟨cl, cld, .cell (some (.ref D)), csl⟩
  cls : ∃ cd, PySem.W.clsIn K D = some cd
  msub : PySem.W.mroIn K C (.ref D) = some true
  sup : PySem.W.ks_superIn K C D "__init__" = some (some (.builtin i))
  subB : PySem.W.subIn K (.ref C) (.type B) = some true
  opq : PySem.W.nsIn K cStatics "thirdparty.any" = some none
  top : (P.main.scope.names.lookup ("super" : Str)).isSome = false
/-- the object of an own error whose fields are not laid yet -/
abbrev bare (C t1 : Addr) (d : Option Addr) : Obj := { cls := .ref C, dict := d, data := .fields #[.ref t1, .none, .none, .none, .bool false, .none] }
/-- a base's own __init__, bound to an own error and called: nothing but the error's arguments changes. Of heaps alone -/
theorem wrapper_runs {Bb nb ib : String} {tl : List Value} (F : ExcBaseFacts Bb nb ib tl) {prog : Program} {w : World} {A : Around} {E : Value → Shared → Prop} {s : Shared} {Q : Value → Shared → Prop} {u a C t1 : Addr} {us : List Value} {dv : Option Addr}
    {nm q : Str} {N : Addr} {bs bm : List Value} {hd : Bool} {sn : List Str} {sub : List Value} {ab : Bool} {col : Option Bool} {dd : Option Addr} {k0 k1 k2 k3 k5 : Option Value}
    (hC : s.heap.get? C = some (excClassObj nm q C N bs bm hd sn sub ab col dd k0 k1 k2 k3 k5 nb)) (ha : s.heap.get? a = some (bare C t1 dv)) (hu : s.heap.get? u = some (PySem.W.kxs_mw ib a)) (hl : us.length ≤ sizeLine)
    (done : ∀ h', (∀ b o, b ≠ a → s.heap.get? b = some o → h'.get? b = some o) → (∃ t2, h'.get? a = some (bare C t2 dv)) → Q .none { s with heap := h' }) : wpAny (model prog w) A (call (.ref u) us) Q E s := by
  obtain ⟨hp, g, d, tk, os⟩ := s
  have chk : ∀ (A : Around) (E : Value → Shared → Prop) (Q' : Unit → Shared → Prop), Q' () ⟨hp, g, d, tk, os⟩ → wpAny (model prog w) A (checkBoundCall ib ⟨.ref a :: us, []⟩) Q' E ⟨hp, g, d, tk, os⟩ :=
    fun A E Q' z => PySem.W.check_bound_init F.toExcCallFacts hC ha rfl z
  refine wpAny_call (codeAny_of_tree ?_)
  simp only [callAny]
  refine wpAny_bind (wpAny_load hu ?_)
  dsimp only [PySem.W.kxs_mw]
  refine PySem.W.KFB.if_so (by decide) (PySem.W.KFB.if_so (by decide) ?_)
  refine wpAny_bind (chk _ _ _ (wpAny_pure ⟨plainId_quiet F.init.plain _, codeAny_builtin F.initEntry ?_⟩))
  exact PySem.W.exc_init_tree ha hl fun h' keep hx _ => done h' keep ⟨_, hx⟩
/-- the same in a frame: the error stays as it was told -/
theorem wrapper_inv {Bb nb ib : String} {tl : List Value} (F : ExcBaseFacts Bb nb ib tl) {X : Cx} {pins : List (Addr × Obj)} {σ : L2.St} {H : Hp} {s : Shared} {E : Value → Shared → Prop} {a C u : Addr} {us : List Value} {Q : Value → Shared → Prop}
    (hC : ∃ nm q N bs bm hd sn sub ab col dd k0 k1 k2 k3 k5, X.K.lookup C = some (excClassObj nm q C N bs bm hd sn sub ab col dd k0 k1 k2 k3 k5 nb)) (I : Inv X pins σ H s) (ea : H a = some (exo a C none)) (hu : s.heap.get? u = some (PySem.W.kxs_mw ib a)) (hl : us.length ≤ sizeLine)
    (h : ∀ s', Inv X pins σ H s' → Q .none s') : wpAny (model X.prog X.w) X.A (call (.ref u) us) Q E s := by
  obtain ⟨nm, q, N, bs, bm, hd, sn, sub, ab, col, dd, k0, k1, k2, k3, k5, e⟩ := hC
  obtain ⟨t1, ha⟩ := exo_at I.hok ea
  refine wrapper_runs F (I.kIn _ _ e) ha hu hl fun h' keep ⟨t2, h2⟩ => h _ ?_
  have same : upd H a (exo a C none) = H := funext fun b => by
    by_cases z : b = a
    · subst z; rw [upd_same, ea]
    · exact upd_ne z
  have J := I.write (t' := s.toks) (x := a) (e := a) (o := exo a C none) (by rw [ea]; trivial) (.inl rfl) keep ⟨_, h2⟩ (exo_ok h2)
  rwa [same] at J
section
variable {X : Cx} {pins : List (Addr × Obj)} {σ : L2.St} {H : Hp} {s : Shared} {a C D f c cc : Addr} {body : List Stmt} {p0 p1 p2 p3 p4 p5 : Pos} {z : Str} {kk : Nat} {E : Value → Shared → Prop}
  {oc : Value} {od : Option Addr} {fd : FuncData} {osl : Array (Option Value)} {ar : Arg} {Q : Flow → Shared → Prop}
/-- the wrapper is called -/
theorem mw_call {u : Addr} {us : List Value} {Q : Value → Shared → Prop} (T : OexC X.K C) (I : Inv X pins σ H s) (ea : H a = some (exo a C none)) (hu : s.heap.get? u = some (PySem.W.kxs_mw "ValueError.__init__" a)) (hl : us.length ≤ sizeLine) (h : ∀ s', Inv X pins σ H s' → Q .none s') :
    wpAny (model X.prog X.w) X.A (call (.ref u) us) Q E s :=
  wrapper_inv F.excBase_ValueError (by
    obtain ⟨nm, q, N, bs, bm, sn, sub, ab, col, dd, k0, k1, k2, k3, k5, z, _⟩ := T.cls
    exact ⟨nm, q, N, bs, bm, true, sn, sub, ab, col, dd, k0, k1, k2, k3, k5, z⟩) I ea hu hl h
theorem sup_step (T : OexC X.K C) (U : SupIn X.prog X.K "ValueError" "ValueError.__init__" C D c cc) (I : Inv X pins σ H s) (hks : X.env.kindOf "super" = some .globalImplicit) (hkc : X.env.kindOf "__class__" = some .free) (hfu : X.env.func = some f) (hco : X.env.code = .ref c)
    (hcl : X.env.cells.lookup ("__class__" : Str) = some cc) (hm : X.mg "super" = none) (hf : X.K.lookup f = some ⟨oc, od, .func fd, osl⟩) (hp : (fd.params.posonlyargs ++ fd.params.args).head? = some ar)
    (hN : X.N[0]? = some ar.arg) (hka : X.env.kindOf ar.arg = some .local) (hσ : σ[0]? = some (some (.ref a))) (ea : H a = some (exo a C none)) (hi : interactive X.env = false) {pl : Sem Bool}
    (he : eval (.Call (.Attribute (.Call (.Name "super" p0) [] [] p1) "__init__" p2) [.Constant (.str z) kk p3] [] p4) X.env = (do
      let ov ← attributeBase (.Call (.Name "super" p0) [] [] p1) "__init__" X.env (eval (.Call (.Name "super" p0) [] [] p1) X.env)
      standAt p2.atName
      let (f, first) ← holding [ov] (getMethod ov "__init__" pl)
      callWith p4 f first (backTo p4 (starEach [.Constant (.str z) kk p3] X.env)) [])) (hQ : ∀ s', Inv X pins σ H s' → Q .next s') :
    _root_.PySem.wpAt (model X.prog X.w) X.A (.func body X.env) (exec (.Expr (.Call (.Attribute (.Call (.Name "super" p0) [] [] p1) "__init__" p2) [.Constant (.str z) kk p3] [] p4) p5) X.env) Q X.xe s := by
  have KX := I.kIn
  obtain ⟨ccl, cdd, vs, ccs, file, tf, hcode, hvs, hfile⟩ := U.code
  obtain ⟨cl, cld, csl, hcell⟩ := U.cell
  obtain ⟨cdD, hD⟩ := U.cls
  obtain ⟨oD, hD1, hD2⟩ : ∃ oD, s.heap.get? D = some oD ∧ oD.data = .cls cdD := by
    unfold PySem.W.clsIn at hD
    split at hD
    · rename_i c d cd' sl ho
      cases hD
      exact ⟨_, KX _ _ ho, rfl⟩
    · cases hD
  obtain ⟨m, hns, hlo⟩ := I.loc
  obtain ⟨v, rv, hv⟩ := hlo 0 _ _ hN hσ (.inl hka)
  obtain rfl : v = Value.ref a := rv
  have hv : m ar.arg = some (.ref a) := by
    rcases hv with ⟨_, hv⟩ | ⟨hk, _⟩
    · exact hv
    · rcases hk with hk | hk <;> rw [hka] at hk <;> cases hk
  obtain ⟨t1, ho⟩ := exo_at I.hok ea
  obtain ⟨nm, q, N, bs, bm, sn, sub, ab, col, dd, k0, k1, k2, k3, k5, hC, hbm⟩ := T.cls
  have hclC : PySem.W.clsIn X.K C = some { name := nm, bases := bs, mro := .ref C :: bm, ns := N, qualname := q, hasDict := true, slotNames := sn, subclasses := sub, abstract := ab, collection := col, hasDel := false } := by unfold PySem.W.clsIn; rw [hC] <;> rfl
  refine ks_wpAt_Expr_any ?_ hi
  refine ks_wpAt_MethodCall ?_ he
  refine ks_wpAt_super_base (env := X.env) hks hkc (by decide) hfu (KX _ _ hf) rfl hp hco (KX _ _ hcode) rfl hvs hfile U.top ?_
  obtain ⟨mb, b1, b2⟩ := I.mod.blt
  refine PySem.W.ks_loadName_global I.ok.kind hks (PySem.Calls.loadGlobal_builtin (by rw [I.ok.glob]; exact I.mod.glob.keeps I.bk) hm (by rw [I.ok.blt]; exact b1.keeps I.bk) ((b2 _ (by decide)).trans PyProof.Rows.Boot.«super») ⟨rfl, ?_⟩)
  refine wpAny_loadName_free I.ok.kind hkc hcl ⟨_, KX _ _ hcell, rfl⟩ ?_
  refine wpAny_loadName_local I.ok.kind hka hns hv ?_
  refine ks_wpAny_isType_cls hD1 hD2 ⟨rfl, ?_⟩
  obtain ⟨hh, g, d, t, os⟩ := s
  refine ks_wpAny_call_super hD1 hD2 ho rfl (fun c e => by cases e) (PySem.W.looks_mroIn KX U.msub) (fun h' e k => ?_)
  have I2 : Inv X pins σ H ⟨h', g, d, t, os⟩ := I.kept (t' := t) k
  have hm2 := U.sup
  unfold PySem.W.ks_superIn at hm2
  rw [hclC] at hm2
  have hI : PySem.W.Looks (model X.prog X.w) h' (isInstance (.ref a) (.type "ValueError")) true := (PySem.W.InstAt.type (x := a) (od := none) ⟨k _ _ ho, rfl, rfl, trivial⟩).andThen (PySem.W.looks_subIn I2.kIn U.subB)
  have hac : a ≠ C := fun e => by
    have h1 : hh.get? C = _ := KX _ _ hC
    rw [← e, ho] at h1
    cases h1
  refine PySem.W.kxs_getMethod PySem.W.kxs_ValueError e (PySem.W.looks_opaque I2.kIn U.opq) (l₀ := .ref C :: bm) ?_ rfl I2.kIn hm2 hI hac (by decide) ?_
  · exact fun A Q E s k q => wpAny_bind ((PySem.W.looks_clsIn I2.kIn hclC) A _ E s k (wpAny_pure q))
  have hpu : ∀ b o, h'.get? b = some o → (h'.push (PySem.W.kxs_mw "ValueError.__init__" a)).get? b = some o := fun b o e => Heap.get?_push_of_some _ e
  have hmw : (h'.push (PySem.W.kxs_mw "ValueError.__init__" a)).get? h'.objs.size = some (PySem.W.kxs_mw "ValueError.__init__" a) := Heap.get?_push_at rfl rfl
  have I3 : Inv X pins σ H ⟨h'.push (PySem.W.kxs_mw "ValueError.__init__" a), g, d, t + 1, os⟩ := I2.kept (t' := t + 1) hpu
  have nu : H h'.objs.size = none := I2.hok.fresh (Nat.le_refl _)
  have I5 : Inv X (pins ++ [(h'.objs.size, PySem.W.kxs_mw "ValueError.__init__" a)]) σ H ⟨h'.push (PySem.W.kxs_mw "ValueError.__init__" a), g, d, t + 1, os⟩ := ⟨I3.ok, I3.os, I3.bare, I3.base, I3.loc, I3.cell, I3.free, I3.freeC, fun p hp => by
    rw [← List.append_assoc] at hp
    rcases List.mem_append.mp hp with hp | hp
    · exact I3.pin p hp
    · rw [List.mem_singleton.mp hp]
      exact ⟨hmw, nu, Nat.ne_of_gt I2.lt, I2.nofs (Nat.le_refl _), fun v e => by cases e⟩, I3.hok, I3.len⟩
  generalize h'.objs.size = u at I5 hmw nu ⊢
  generalize h'.push (PySem.W.kxs_mw "ValueError.__init__" a) = h3 at I5 I3 hmw hpu ⊢
  refine PySem.W.kxs_callWith (i := "ValueError.__init__") (x := a) rfl ?_
  refine PySem.Calls.evalArgs_plain ?_
  refine thn ((pa_cons (pe_str (x := z) (j := kk) (pos := p3)) pa_nil : PA X [.Constant (.str z) kk p3] (tCons (tC (.str z)) tNil)).run p4 _ _ σ H (fun vs H1 => vs = [.str z] ∧ H1 = H) I5 ⟨rfl, rfl⟩) fun us s1 ⟨vs, H1, I4, rv, ev, eH⟩ => ?_
  subst eH ev
  have hpin := (I4.pin (u, PySem.W.kxs_mw "ValueError.__init__" a) (List.mem_append_right _ (List.mem_append_right _ (List.mem_singleton.mpr rfl)))).1
  have I6 : Inv X pins σ H1 s1 := I4.unpinned
  have hl : us.length ≤ sizeLine := by
    rw [← Paired.length rv, sizeLine_eq]
    simp
  exact ⟨hpin, mw_call T I6 ea hpin hl hQ⟩
end
/-- the __init__ of such a class, by the rest of its body -/
theorem fn_sup {CX : CXT} {P : Program} {w : World} {K : PySem.W.Frag} {mg : Str → Option Value} {base : Heap} {k : Nat} {f c cc D : Addr} {name qual : Str} {params : Arguments} {rest : List Stmt} {scope : Scope} {dV kV doc pm ct oc : Value} {an od : Option Addr}
    {osl : Array (Option Value)} {N ps : List Str} {sp : Sp} {p0 p1 p2 p3 p4 p5 : Pos} {z : Str} {kk : Nat} {ar : Arg}
    (lk : K.lookup f = some ⟨oc, od, .func (PySem.W.fnX name qual params (.Expr (.Call (.Attribute (.Call (.Name "super" p0) [] [] p1) "__init__" p2) [.Constant (.str z) kk p3] [] p4) p5 :: rest) scope [("__class__", cc)] dV kV doc pm an (.ref c) ct), osl⟩)
    (hcd : PySem.W.codeIn K (.ref c) qual = true) (S : NdefX.NScope N ps ["__class__"] scope) (hm : mg "super" = none) (hp : (params.posonlyargs ++ params.args).head? = some ar) (hN : N[0]? = some ar.arg) (hka : scope.names.lookup ar.arg = some .local)
    (hks : scope.names.lookup ("super" : Str) = some .globalImplicit)
    (he : ∀ env, ∃ pl, eval (.Call (.Attribute (.Call (.Name "super" p0) [] [] p1) "__init__" p2) [.Constant (.str z) kk p3] [] p4) env = (do
      let ov ← attributeBase (.Call (.Name "super" p0) [] [] p1) "__init__" env (eval (.Call (.Name "super" p0) [] [] p1) env)
      standAt p2.atName
      let (f, first) ← holding [ov] (getMethod ov "__init__" pl)
      callWith p4 f first (backTo p4 (starEach [.Constant (.str z) kk p3] env)) []))
    (len : ∀ vs H Q E, sp vs H Q E → vs.length = ps.length)
    (hbody : ∀ (A : Around) (outer : List Env) (s : Shared) (H : Hp) (vs : List V) (Q : VK) (E : XK), sp vs H Q E →
      (∃ (a C : Addr) (ws : List V), vs = .ref a :: ws ∧ OexC K C ∧ SupIn P K "ValueError" "ValueError.__init__" C D c cc ∧ H a = some (exo a C none)) ∧
      ∃ t, PSs (NdefX.ncx CX P w K mg base N ⟨name, qual, params, rest, scope, [("__class__", cc)], c⟩ f A outer s H E) rest t ∧ t { nx := fun _ H' => Q .non H', rt := Q } (NdefX.startF N vs [none]) H) :
    FnOk P w K mg base CX (k + 1) f (PySem.W.fnX name qual params (.Expr (.Call (.Attribute (.Call (.Name "super" p0) [] [] p1) "__init__" p2) [.Constant (.str z) kk p3] [] p4) p5 :: rest) scope [("__class__", cc)] dV kV doc pm an (.ref c) ct) ps sp := by
  refine ⟨len, fun A outer s H args us vs Q E hr e0 hb r hsp => ?_⟩
  have hl := len _ _ _ _ hsp
  have KX : K.In s.heap := e0.mod.kin.keeps fun b o e => (e0.bs b o e).1
  have lim : s.heap.NoLimit := e0.mod.nolimit.keeps fun b o e => (e0.bs b o e).1
  obtain ⟨⟨a, C, ws, rfl, T, U, ea⟩, t, ht, hq⟩ := hbody A outer s H vs Q E hsp
  obtain ⟨cl, cld, csl, hcell⟩ := U.cell
  have CA : NdefX.CellsAt [(("__class__" : Str), cc)] ["__class__"] [none] s.heap H := ⟨rfl, fun y c' e => by
      have e' := PySem.mem_of_lookup e
      rw [List.mem_singleton] at e'
      injection e' with e1 e2
      subst e2
      exact ⟨(e0.bs _ _ (e0.mod.kin _ _ hcell)).2, _, _, KX _ _ hcell, rfl⟩, fun x y c' h1 h2 => by
      have e1 := PySem.mem_of_lookup h1
      have e2 := PySem.mem_of_lookup h2
      rw [List.mem_singleton] at e1 e2
      injection e1 with e1 _
      injection e2 with e2 _
      rw [e1, e2], fun i y h => by
      have : y = ("__class__" : Str) := by
        have := List.mem_of_getElem? h
        simpa using this
      subst this
      exact ⟨cc, by simp [List.lookup], fun v hv => by
        cases i with
        | zero => simp at hv
        | succ i => simp at hv⟩⟩
  refine ks_codeAny_call_defAt (binds := ps.zip us) hr.depth (KX _ _ lk) rfl lim (PySem.W.codeRec_of KX hcd) rfl hb S.nocell (fun ⟨n, _⟩ hy => S.par n (List.of_mem_zip hy).1) (fun h₁ hns kp => ?_) S.co S.gen S.kind
  have I : Inv (NdefX.ncx CX P w K mg base N ⟨name, qual, params, rest, scope, [("__class__", cc)], c⟩ f A outer s H E) [] (NdefX.startF N (.ref a :: ws) [none]) H { s with heap := h₁, toks := s.toks + (ps.zip us).length } := NdefX.inv_startN S hr.hd e0 hl r CA hns kp
  obtain ⟨pl, he⟩ := he (NdefX.ncx CX P w K mg base N ⟨name, qual, params, rest, scope, [("__class__", cc)], c⟩ f A outer s H E).env
  refine ks_wpAt_execs_cons ?_
  refine sup_step (X := NdefX.ncx CX P w K mg base N ⟨name, qual, params, rest, scope, [("__class__", cc)], c⟩ f A outer s H E) T U I hks (S.frk _ (List.mem_singleton.mpr rfl)) rfl rfl (by show List.lookup ("__class__" : Str) [(("__class__" : Str), cc)] = some cc; simp [List.lookup]) hm lk hp hN hka (by rfl) ea (by show (scope.kind == ScopeKind.module && _) = false; rw [S.kind]; rfl) he fun s' J => ?_
  refine wpAt_of_wpAny (wpAny_mono (ht.run [] s' _ H _ J hq) (fun fl s'' hs => ?_) fun e s' hs => hs)
  have fin : ∀ {σ' : L2.St} {H' : Hp} {v : V} {u : Value}, Inv (NdefX.ncx CX P w K mg base N ⟨name, qual, params, rest, scope, [("__class__", cc)], c⟩ f A outer s H E) [] σ' H' s'' → L2.RelV v u → Q v H' → CE outer P w H s Q u s'' :=
    fun {σ' H' v u} J rv q => ⟨v, H', J.os, J.bare, J.base, J.hok, rv, q⟩
  cases fl with
  | ret u =>
    obtain ⟨v, σ', H', J, rv, q⟩ := hs
    exact fin J rv q
  | next =>
    obtain ⟨σ', H', J, q⟩ := hs
    exact fin (v := V.non) (u := Value.none) J rfl q
  | brk =>
    obtain ⟨_, _, _, q⟩ := hs
    exact False.elim q
  | cont =>
    obtain ⟨_, _, _, q⟩ := hs
    exact False.elim q
end WP

set_option Elab.async false
set_option linter.all false
set_option maxRecDepth 100000
set_option maxHeartbeats 4000000
namespace WP
open PySem PySem.Spec PyProof.Rows L2
/-! ### what the head tells of an own exception class over ValueError whose __init__ says super().__init__ -/
/-- the class's name, its __init__'s qualified name, the def -/
structure ExD where
  x : Str
  qual : Str
  st : Stmt
abbrev InW : Type := Option (Str × Str × Arguments × FuncBody × Scope × Addr × List Str × Addr)
def inW (K : PySem.W.Frag) (x : Str) : InW := match K.lookup (He.fAd K (x, some "__init__")) with
  | some ⟨_, _, .func fd, _⟩ => some (fd.name, fd.qualname, fd.params, fd.body, fd.scope, fd.globals, fd.closure.map (·.1), fd.builtins)
  | _ => none
def ExD.val (d : ExD) : InW := some ("__init__", d.qual, defArgs d.st, .stmts (defBody d.st), defScope d.st, mainGlobals, ["__class__"], builtinsNs)
def supB (P : Program) (K : PySem.W.Frag) (C fI : Addr) (qual : Str) : Bool := match K.lookup fI with
  | some ⟨_, _, .func fd, _⟩ => (match fd.code, fd.closure, fd.defaults with
    | .ref c, [(_, cc)], .none => PySem.W.codeIn K (.ref c) qual && ((match K.lookup c with
        | some ⟨_, _, .fields vs, _⟩ => (match vs[2]? with
          | some (Value.str file _) => P.main.file == file
          | _ => false)
        | _ => false) && (match K.lookup cc with
        | some ⟨_, _, .cell (some (.ref D)), _⟩ => decide (D = C)
        | _ => false))
    | _, _, _ => false)
  | _ => false
def oexB (K : PySem.W.Frag) (C : Addr) : Bool := match K.lookup C with
  | some ⟨.type t, _, .cls ⟨_, _, .ref c :: bm, _, _, true, _, _, _, _, false⟩, ⟨[_, _, _, _, some (.builtin n), _]⟩⟩ => decide (t = "type") && (decide (c = C) && (PySem.HandSPX.refsVE bm && decide (n = "ValueError.__new__")))
  | _ => false
def excB (P : Program) (K : PySem.W.Frag) (d : ExD) : Bool :=
  supB P K (He.ga K d.x) (He.ma K (He.ga K d.x) "__init__") d.qual && (oexB K (He.ga K d.x) && (He.eqO (PySem.W.findIn K (.ref (He.ga K d.x)) "__setattr__") (some (some (.builtin "object.__setattr__"))) && (decide (PySem.W.typeIn K (.ref (He.ga K d.x)) = some (.type "type")) && (PySem.W.keepIn K (.ref (He.ga K d.x)) &&
    (He.eqO (PySem.W.findIn K (.ref (He.ga K d.x)) "__init__") (some (some (.ref (He.ma K (He.ga K d.x) "__init__")))) && (decide (PySem.W.typeIn K (.ref (He.ma K (He.ga K d.x) "__init__")) = some (.type "function")) && (decide (PySem.W.mroIn K (He.ga K d.x) (.ref (He.ga K d.x)) = some true) &&
    (He.eqO (PySem.W.ks_superIn K (He.ga K d.x) (He.ga K d.x) "__init__") (some (some (.builtin "ValueError.__init__"))) && (decide (PySem.W.subIn K (.ref (He.ga K d.x)) (.type "ValueError") = some true) && (He.eqO (PySem.W.nsIn K cStatics "thirdparty.any") (some none) && (xfB K (He.ga K d.x) && He.eqO (PySem.W.nsIn K mainGlobals d.x) (some (some (.ref (He.ga K d.x)))))))))))))))
theorem oexB_ok {K : PySem.W.Frag} {C : Addr} (h : oexB K C = true) : ∃ nm q N bs bm sn sub ab col dd k0 k1 k2 k3 k5, K.lookup C = some (excClassObj nm q C N bs bm true sn sub ab col dd k0 k1 k2 k3 k5 "ValueError.__new__") ∧ PySem.HandSPX.refsVE bm = true := by
  unfold oexB at h
  split at h
  · rename_i t dd nm bs c bm N q sn sub ab col k0 k1 k2 k3 n k5 e
    obtain ⟨h1, h⟩ := Bool.and_eq_true_iff.mp h
    obtain ⟨h2, h⟩ := Bool.and_eq_true_iff.mp h
    obtain ⟨h3, h4⟩ := Bool.and_eq_true_iff.mp h
    have h1 := of_decide_eq_true h1
    have h2 := of_decide_eq_true h2
    have h4 := of_decide_eq_true h4
    subst h1 h2 h4
    exact ⟨nm, q, N, bs, bm, sn, sub, ab, col, dd, k0, k1, k2, k3, k5, e, h3⟩
  · cases h
/-- what the written part says of such a class at C, its __init__ at f -/
structure ExcT (P : Program) (K : PySem.W.Frag) (mg : Str → Option Value) (x qual : Str) (st : Stmt) (C f : Addr) : Prop where
  gC : mg x = some (.ref C)
  T : OexC K C
  xf : XfC K C
  iC : PySem.W.findIn K (.ref C) "__init__" = some (some (.ref f))
  tI : PySem.W.typeIn K (.ref f) = some (.type "function")
  fn : ∃ (oc : Value) (od : Option Addr) (kV doc pm : Value) (an : Option Addr) (c cc : Addr) (ct : Value) (osl : Array (Option Value)),
    K.lookup f = some ⟨oc, od, .func (PySem.W.fnX "__init__" qual (defArgs st) (defBody st) (defScope st) [("__class__", cc)] .none kV doc pm an (.ref c) ct), osl⟩ ∧ PySem.W.codeIn K (.ref c) qual = true ∧ SupIn P K "ValueError" "ValueError.__init__" C C c cc
theorem excT_of {P : Program} {K : PySem.W.Frag} {mg : Str → Option Value} {h : Heap} {d : ExD} (X : K.In h) (G : h.Ns mainGlobals mg) (e : inW K d.x = d.val) (b : excB P K d = true) (htop : (P.main.scope.names.lookup ("super" : Str)).isSome = false) :
    ExcT P K mg d.x d.qual d.st (He.ga K d.x) (He.ma K (He.ga K d.x) "__init__") := by
  unfold excB at b
  obtain ⟨b1, b⟩ := Bool.and_eq_true_iff.mp b
  obtain ⟨b2, b⟩ := Bool.and_eq_true_iff.mp b
  obtain ⟨b3, b⟩ := Bool.and_eq_true_iff.mp b
  obtain ⟨b4, b⟩ := Bool.and_eq_true_iff.mp b
  obtain ⟨b5, b⟩ := Bool.and_eq_true_iff.mp b
  obtain ⟨b6, b⟩ := Bool.and_eq_true_iff.mp b
  obtain ⟨b7, b⟩ := Bool.and_eq_true_iff.mp b
  obtain ⟨b8, b⟩ := Bool.and_eq_true_iff.mp b
  obtain ⟨b9, b⟩ := Bool.and_eq_true_iff.mp b
  obtain ⟨b10, b⟩ := Bool.and_eq_true_iff.mp b
  obtain ⟨b11, b⟩ := Bool.and_eq_true_iff.mp b
  obtain ⟨b12, b13⟩ := Bool.and_eq_true_iff.mp b
  have xf := xfB_ok b12
  refine ⟨PySem.W.mg_of X G (He.eqO_ok b13), ⟨oexB_ok b2, He.eqO_ok b3, xf.exC, of_decide_eq_true b4, b5⟩, xf, He.eqO_ok b6, of_decide_eq_true b7, ?_⟩
  have oex := oexB_ok b2
  unfold supB at b1
  unfold inW at e
  have ef : He.fAd K (d.x, some "__init__") = He.ma K (He.ga K d.x) "__init__" := rfl
  rw [ef] at e
  cases q : K.lookup (He.ma K (He.ga K d.x) "__init__") with
  | none =>
    rw [q] at b1
    cases b1
  | some o =>
    obtain ⟨oc, od, dt, osl⟩ := o
    rw [q] at b1 e
    cases dt with
    | func fd =>
      obtain ⟨n1, n2, n3, n4, n5, n6, n7, n8, n9, n10, n11, n12, n13, n14, n15⟩ := fd
      have e2 : (some (n1, n2, n3, n4, n5, n6, n7.map (·.1), n15) : InW) = some (("__init__" : Str), d.qual, defArgs d.st, FuncBody.stmts (defBody d.st), defScope d.st, mainGlobals, [("__class__" : Str)], builtinsNs) := e
      simp only [Option.some.injEq, Prod.mk.injEq] at e2
      obtain ⟨h1, h2, h3, h4, h5, h6, h7, h8⟩ := e2
      subst h1 h2 h3 h4 h5 h6 h8
      dsimp only at b1
      split at b1
      · rename_i c nmc cc
        obtain ⟨c1, c2⟩ := Bool.and_eq_true_iff.mp b1
        obtain ⟨c2, c3⟩ := Bool.and_eq_true_iff.mp c2
        have h7 : [nmc] = [("__class__" : Str)] := h7
        injection h7 with h7 _
        subst h7
        refine ⟨oc, od, n9, n10, n11, n12, c, cc, n14, osl, rfl, c1, ?_, ?_, ?_, of_decide_eq_true b8, He.eqO_ok b9, of_decide_eq_true b10, He.eqO_ok b11, htop⟩
        · split at c2
          · rename_i ccl cdd vs ccs hc
            split at c2
            · rename_i file tf hv
              exact ⟨ccl, cdd, vs, ccs, file, tf, hc, hv, c2⟩
            · cases c2
          · cases c2
        · split at c3
          · rename_i cl cld D csl hc
            have := of_decide_eq_true c3
            subst this
            exact ⟨cl, cld, csl, hc⟩
          · cases c3
        · obtain ⟨nm, q, N, bs, bm, sn, sub, ab, col, dd, k0, k1, k2, k3, k5, hC, hbm⟩ := oex
          exact ⟨_, by unfold PySem.W.clsIn; rw [hC] <;> rfl⟩
      · cases b1
    | _ => cases b1
/-! ### the hook -/
abbrev AlE : Type := He.AlD × List InW × Bool
def obsE2 (n : Nat) (fa : List He.Fa) (fn : List He.DefD) (xs : List ExD) (ex : PySem.W.Frag → Bool) (g : Addr → Option Obj) : AlE := (He.obsD fa fn (He.frG g (cStatics :: He.asD g n)), xs.map (fun d => inW (He.frG g (cStatics :: He.asD g n)) d.x), ex (He.frG g (cStatics :: He.asD g n)))
def hookE2 (n : Nat) (fa : List He.Fa) (fn : List He.DefD) (xs : List ExD) (ex : PySem.W.Frag → Bool) : PySem.W.Hook where
  α := AlE
  obs := fun s => obsE2 n fa fn xs ex s.heap.get?
  val := fun _ => (He.valD fn, xs.map ExD.val, true)
  says := fun _ h => ∃ K : PySem.W.Frag, K.In h ∧ He.SaysD fa fn K ∧ xs.map (fun d => inW K d.x) = xs.map ExD.val ∧ ex K = true
  of := fun _ _ e => ⟨_, He.frG_in, congrArg (fun z : AlE => z.1) e, congrArg (fun z : AlE => z.2.1) e, congrArg (fun z : AlE => z.2.2) e⟩
  keeps := fun _ _ _ ⟨K, hK, c⟩ k => ⟨K, PySem.W.Frag.In.keeps hK k, c⟩
theorem obsE2_eq {n : Nat} {fa : List He.Fa} {fn : List He.DefD} {xs : List ExD} {ex : PySem.W.Frag → Bool} {g : Addr → Option Obj} {s : Shared} (h : ∀ a, g a = s.heap.get? a) : obsE2 n fa fn xs ex g = (hookE2 n fa fn xs ex).obs s := by
  have e : g = s.heap.get? := funext h
  subst e
  rfl
theorem inW_at {K : PySem.W.Frag} {xs : List ExD} (h : xs.map (fun d => inW K d.x) = xs.map ExD.val) (i : Nat) {d : ExD} (hd : xs[i]? = some d := by rfl) : inW K d.x = d.val := by
  have := congrArg (fun l => l[i]?) h
  simp only [List.getElem?_map, hd] at this
  exact Option.some.inj this
/-! ### C(v): an exception with one field -/
def spInit1 (f : Str) (K : PySem.W.Frag) (C : Addr) : Sp := fun vs H Q _ => ∃ (a : Addr) (v : V), vs = [.ref a, v] ∧ H a = some (exo a C none) ∧ ∀ dx, H dx = none → dx ≠ a → Q .non (upd (upd H dx (exd dx [(f, v)])) a (exo a C (some dx)))
def tMk1 (C : Addr) (f : Str) (ta : TA) : L2.St → Hp → XK → Prop := fun σ H Q => ta σ H fun vs H1 => ∃ v, vs = [v] ∧ ∀ d, H1 d = none → Q (.ref C) (some d) (upd H1 d (.xd [(f, v)]))
theorem mk1_imp {C : Addr} {f : Str} {K : PySem.W.Frag} {ta : TA} (mono : ∀ σ H Q Q', (∀ vs H', Q vs H' → Q' vs H') → ta σ H Q → ta σ H Q') {σ : L2.St} {H : Hp} {Q : XK} (h : tMk1 C f ta σ H Q) : tMkO C (spInit1 f K C) [] ta σ H Q := by
  refine mono _ _ _ _ (fun vs H1 q => ?_) h
  obtain ⟨v, rfl, q⟩ := q
  refine ⟨by simp, fun a ha => ⟨a, v, rfl, upd_same, fun dx hdx hne => ?_⟩⟩
  rw [upd_ne hne] at hdx
  refine ⟨rfl, dx, [(f, v)], upd_same, by rw [upd_ne hne, upd_same], hdx, ?_⟩
  have e : upd (del (upd (upd (upd H1 a (exo a C none)) dx (exd dx [(f, v)])) a (exo a C (some dx))) a) dx (.xd [(f, v)]) = upd H1 dx (.xd [(f, v)]) := by
    funext b
    by_cases hb : b = dx
    · subst hb
      rw [upd_same, upd_same]
    · rw [upd_ne hb, upd_ne hb]
      by_cases hba : b = a
      · subst hba
        rw [del_same, ha]
      · rw [del_ne hba, upd_ne hba, upd_ne hb, upd_ne hba]
  rw [e]
  exact q dx hdx
end WP

set_option Elab.async false
set_option linter.all false
set_option maxRecDepth 100000
set_option maxHeartbeats 4000000
/-! enumerate(tuple), enumerate(list or tuple): proved anew (session 3) from enum1_new, with Draws.tuple and the turn's own state -/
namespace WP
open PySem PySem.Spec PyProof.Rows L2
/-- enumerate(v) of whatever pyIter begins: the iterator o is laid, then the enumerate object behind it, its count at 0 -/
theorem enum1_new {v : Value} {o : Obj} {Z : Heap → Prop} (B : Begins v o Z) : Meets (Builtin.«enumerate.__new__» ⟨[.type "enumerate", v], []⟩) fun _ R s =>
    Z s.heap ∧ R (.ok (.ret (.ref (s.heap.objs.size + 1)))) { s with heap := (s.heap.push o).push { cls := .type "enumerate", data := .fields #[.none, .bool false, .ref s.heap.objs.size, rawInt 0, .none, .none] } } := by
  refine .of_wp fun prog w A R s ⟨hz, h⟩ => ?_
  have sub := sub_enumerate
  obtain ⟨hp, g, d, tk, os⟩ := s
  have go : ∀ (A : Around) (E : Value → Shared → Prop) (Q : Value → Shared → Prop), Q (.ref hp.objs.size) ⟨hp.push o, g, d, tk, os⟩ → wpAny (model prog w) A (pyIter v) Q E ⟨hp, g, d, tk, os⟩ := fun A E Q q => B.iter prog w A E _ Q hz q
  wp_walk using go
  refine wpAny_stack fun fs _ _ _ => ?_
  refine wpAny_pure ?_
  have last : R (.ok (.ret (.ref (hp.push o).objs.size))) ⟨(hp.push o).push { cls := .type "enumerate", data := .fields #[.none, .bool false, .ref hp.objs.size, rawInt 0, .none, .none] }, g, d, tk, os⟩ := by
    rw [Heap.size_push]
    exact h
  split
  · wp_walk using go
    split
    all_goals (wp_walk using go)
    all_goals exact ⟨_, rfl, last⟩
  · wp_walk using go
    exact ⟨_, rfl, last⟩
/-- the call itself -/
theorem enum1_call {prog : Program} {w : World} {A : Around} {E : Value → Shared → Prop} {s : Shared} {v : Value} {o : Obj} {Z : Heap → Prop} {Q : Value → Shared → Prop} (B : Begins v o Z) (hz : Z s.heap)
    (h : ∀ h', IsEnum h' (s.heap.objs.size + 1) s.heap.objs.size 0 .none → h'.get? s.heap.objs.size = some o → (∀ b u, s.heap.get? b = some u → h'.get? b = some u) → Q (.ref (s.heap.objs.size + 1)) { s with heap := h' }) :
    wpAny (model prog w) A (call (.type "enumerate") [v]) Q E s := by
  refine callType_new F.called_enumerate (by decide) (F.typeCall_enumerate_1 v) (F.newCall_enumerate_1 v) (fun x => F.args_object_init_2 x v) F.entry_enumerate_new (enum1_new B) ⟨hz, ?_⟩
  have e0 : ((s.heap.push o).push { cls := .type "enumerate", data := .fields #[.none, .bool false, .ref s.heap.objs.size, rawInt 0, .none, .none] }).get? (s.heap.objs.size + 1) = some { cls := .type "enumerate", data := .fields #[.none, .bool false, .ref s.heap.objs.size, rawInt 0, .none, .none] } := by
    rw [← Heap.size_push s.heap o]
    exact Heap.get?_push_size _ rfl
  exact ⟨⟨_, e0, rfl⟩, h _ e0 (Heap.get?_push_of_some _ (Heap.get?_push_size _ B.free)) fun b u e => Heap.get?_push_of_some _ (Heap.get?_push_of_some _ e)⟩
/-- enumerate over the tuple at a: a new pair for each item -/
def IteT (K : PySem.W.Frag) (a : Addr) : It where
  go i H := ∃ xs x, SqT K H a xs ∧ xs[i]? = some x
  yld i H v H' := ∃ T x, v = .ref T ∧ H T = none ∧ H' = upd H T (.tup [.int (i : Nat), x]) ∧ ∀ xs, SqT K H a xs → xs[i]? = some x
  stop i H := ∃ xs, SqT K H a xs ∧ xs.length ≤ i
/-- how the two iterators stand before item i -/
structure EnT (a e it : Addr) (i : Nat) (h : Heap) : Prop where
  en : ∃ old, IsEnum h e it ((i : Nat) : Int) old
  at_ : h.IsTupleIter it a i
  ne : e ≠ it
  nea : e ≠ a
  nai : a ≠ it
theorem tup_items {X : Cx} {pins : List (Addr × Obj)} {σ : L2.St} {H : Hp} {s : Shared} {a : Addr} {xs : List V} (I : Inv X pins σ H s) (q : SqT X.K H a xs) : ∃ its : List Value, Vals xs its ∧ s.heap.IsTuple a its.toArray := by
  obtain ⟨its, o, n, r, ho, hc, hd⟩ := sqT_at I.hok I.kIn q
  exact ⟨its, r, ⟨o, ho, hc, n, hd⟩⟩
/-- a tuple's iterator that has come to the tuple's end draws nothing -/
theorem spent {prog : Program} {w : World} {A : Around} {it a : Addr} {items : Array Value} {i : Nat} (hh : A.handled = none) (ne : a ≠ it) (hi : items.size ≤ i) :
    Draws prog w A it [it, a] i (fun _ _ => True) fun j h => j = i ∧ h.IsTupleIter it a i ∧ h.IsTuple a items := by
  constructor
  · rintro j h ⟨_, ⟨o, z, _⟩, _⟩
    exact ⟨o, z⟩
  · rintro j h h' ⟨rfl, x, y⟩ hk
    exact ⟨rfl, x.at fun o z => hk it (by simp) o z, y.at fun o z => hk a (by simp) o z⟩
  · rintro j s Q E hj ⟨rfl, _⟩
    exact absurd hj (Nat.lt_irrefl _)
  · rintro s Q E ⟨_, x, y⟩ hE
    exact wpAny_nextOf_tuple_end hh x y (Array.getElem?_eq_none hi) hE
theorem turn_enumT {P : Program} {w : World} {K : PySem.W.Frag} {elts : List Expr} {kk : Nat} {tpos : Pos} (a e it : Addr) : Turn P w K (.Tuple elts kk tpos) (IteT K a) [e, it] e (EnT a e it) := by
  constructor
  · simp
  · intro i h ⟨⟨old, he⟩, ⟨oi, hi, _, hd⟩, _, _, _⟩ b hb
    simp only [List.mem_cons, List.not_mem_nil, or_false] at hb
    rcases hb with rfl | rfl
    · exact ⟨_, he, fun v z => by cases z⟩
    · exact ⟨oi, hi, fun v z => by rw [hd] at z; cases z⟩
  · intro i h h' ⟨⟨old, he⟩, ha, n1, n2, n3⟩ hk
    exact ⟨⟨old, hk e (by simp) _ he⟩, ha.at fun o z => hk it (by simp) o z, n1, n2, n3⟩
  · intro X eP ew eK calm i pins s σ H E I fp tn ⟨xs, x, q, hx⟩
    subst eP ew eK
    obtain ⟨⟨old, he⟩, ha, n1, n2, n3⟩ := tn
    obtain ⟨its, r, ht⟩ := tup_items I q
    have hlen : its.length = xs.length := r.length.symm
    have hi : i < its.toArray.size := by
      have := (List.getElem?_eq_some_iff.mp hx).1
      simp
      omega
    refine wpAny_pyNext_enum_itemD (Draws.tuple (A := X.A.in1) (I.ok.hd calm) it a n3 its.toArray) he ⟨ha, ht⟩ hi n1 (by simp [n1, n2]) fun u h' tk hu out st' hT _ hk => ⟨.ref s.heap.objs.size, rfl, ?_⟩
    have ru : RelV x u := by
      obtain ⟨u', e1, r1⟩ := r.get hx
      have e2 : its[i]? = some u := by simpa using hu
      rw [e1] at e2
      cases e2
      exact r1
    refine wpAny_letOwnedTupleGo_enum out fun h2 he2 sb => ?_
    have nT : H s.heap.objs.size = none := I.hok.fresh (Nat.le_refl _)
    have lt : e < s.heap.objs.size ∧ it < s.heap.objs.size := ⟨Heap.lt_size he, let ⟨_, z, _⟩ := ha; Heap.lt_size z⟩
    have hT2 : h2.get? s.heap.objs.size = some { cls := .type "tuple", data := .seq #[.int i tk, u] } := (sb.2 _ (Nat.ne_of_gt lt.1)).trans hT
    have J : Inv X pins σ (upd H s.heap.objs.size (.tup [.int (i : Nat), x])) { s with heap := h2, toks := tk + 1 } := by
      refine I.turnedNew (ch := [e, it]) (fun b o hb z => ?_) fp (Nat.le_refl _) ⟨by show 2 ≤ sizeLine; decide, [.int i tk, u], .cons ⟨tk, rfl⟩ (.cons ru .nil), ⟨_, hT2, rfl, 0, rfl⟩⟩
      simp only [List.mem_cons, List.not_mem_nil, or_false, not_or] at hb
      exact (sb.2 b hb.1).trans (hk b o hb.1 hb.2 z)
    refine ⟨.ref s.heap.objs.size, _, J, rfl, ⟨_, x, rfl, nT, rfl, fun ys q' => ?_⟩, ⟨⟨_, by exact_mod_cast he2⟩, ?_, n1, n2, n3⟩, fun b hb => ?_⟩
    · obtain ⟨its', r', ht'⟩ := tup_items I q'
      obtain ⟨o1, g1, _, m1, d1⟩ := ht
      obtain ⟨o2, g2, _, m2, d2⟩ := ht'
      rw [g1] at g2
      cases g2
      rw [d1] at d2
      have ee : its = its' := by
        injection d2 with d2 _
        simpa using congrArg Array.toList d2
      subst ee
      rw [← r.inj r']
      exact hx
    · exact st'.1.at fun o z => (sb.2 it (Ne.symm n1)).trans z
    · have := fp b hb
      rw [upd_ne]
      · exact this.1
      · simp only [List.mem_cons, List.not_mem_nil, or_false] at hb
        rcases hb with rfl | rfl
        · exact Nat.ne_of_lt lt.1
        · exact Nat.ne_of_lt lt.2
  · intro X eP ew eK calm i pins s σ H E I fp tn ⟨xs, q, hx⟩
    subst eP ew eK
    obtain ⟨⟨old, he⟩, ha, n1, n2, n3⟩ := tn
    obtain ⟨its, r, ht⟩ := tup_items I q
    have hlen : its.toArray.size ≤ i := by
      have := r.length
      simp
      omega
    refine wpAny_pyNext_enum_endD (spent (A := X.A.in1) (I.ok.hd calm) n3 hlen) he ⟨rfl, ha, ht⟩ fun h' k => ⟨rfl, ?_⟩
    have hit := fp it (by simp)
    exact I.turned (t' := s.toks) k hit.1 hit.2.1 hit.2.2.2.1 hit.2.2.2.2.1 hit.2.2.2.2.2
  · intro A i s Q E ⟨⟨old, he⟩, _, _, _, _⟩ hq
    exact wpAny_pyIter_enum he hq
/-- enumerate(v) as what a loop goes over: its two iterators are new, so they may turn -/
theorem enum_pie {X : Cx} {pins : List (Addr × Obj)} {σ : L2.St} {H : Hp} {s : Shared} {tg : Expr} {R : It → Hp → Prop} {v : Value} {o : Obj} {Z : Heap → Prop} {J : It} {tn : Addr → Addr → Nat → Heap → Prop} (I : Inv X pins σ H s) (B : Begins v o Z) (hz : Z s.heap)
    (T : ∀ e it, Turn X.prog X.w X.K tg J [e, it] e (tn e it)) (st : ∀ h', IsEnum h' (s.heap.objs.size + 1) s.heap.objs.size 0 .none → h'.get? s.heap.objs.size = some o → tn (s.heap.objs.size + 1) s.heap.objs.size 0 h') (q : R J H) :
    wpAny (model X.prog X.w) X.A (call (.type "enumerate") [v]) (fun u s1 => wpAny (model X.prog X.w) X.A (pyIter u) (PIE X pins σ tg R) X.xe s1) X.xe s := by
  refine enum1_call B hz fun h' he hi hk => wpAny_pyIter_enum he ?_
  have young : ∀ b ∈ [s.heap.objs.size + 1, s.heap.objs.size], s.heap.objs.size ≤ b := by
    intro b hb
    simp only [List.mem_cons, List.not_mem_nil, or_false] at hb
    omega
  exact ⟨_, _, _, J, H, rfl, I.kept (t' := s.toks) hk, T _ _, st h' he hi, fun b hb => I.fpOk (young b hb) (I.hok.fresh (young b hb)), q⟩
/-- the iterable enumerate(e), e a tuple or a list -/
def iEnumA (K : PySem.W.Frag) (ta : TA) : TI := fun σ H R => ta σ H fun vs H1 => ∃ a xs, vs = [.ref a] ∧ ((SqT K H1 a xs ∧ R (IteT K a) H1) ∨ (SqL K H1 a xs ∧ R (Ite K a) H1))
theorem pi_enumA {X : Cx} (K : PySem.W.Frag) {e : Expr} {ta : TA} {p pos tpos : Pos} {elts : List Expr} {kk : Nat} (hg : Gl X "enumerate") (hm : X.mg "enumerate" = none) (ha : PA X [e] ta) (hK : X.K = K := by rfl)
    (hs : starEach [e] X.env = [(false, eval e X.env)] := by rfl) : PI X (.Tuple elts kk tpos) (.Call (.Name "enumerate" p) [e] [] pos) (iEnumA K ta) := by
  subst hK
  constructor
  intro pins s σ H R I h
  refine Call_ (ld_blt I hg hm boot_enumerate (PyProof.Rows.callWith_type1 (thn (ha.run pos pins s σ H _ I h) ?_) hs rfl))
  rintro us s1 ⟨vs, H1, J1, r, a, xs, rfl, both⟩
  obtain rfl := r.ref1
  rcases both with ⟨q, hR⟩ | ⟨q, hR⟩
  · obtain ⟨its, _, ht⟩ := tup_items J1 q
    have la : a < s1.heap.objs.size := let ⟨_, z, _⟩ := ht; Heap.lt_size z
    refine enum_pie J1 (begins_tuple a its.toArray) ht (fun e it => turn_enumT a e it) (fun h' he hi => ?_) hR
    exact ⟨⟨_, he⟩, ⟨_, hi, rfl, rfl⟩, Nat.succ_ne_self _, Nat.ne_of_gt (Nat.lt_succ_of_lt la), Nat.ne_of_lt la⟩
  · obtain ⟨its, o, n, _, ho, hc, hd⟩ := sqL_at J1.hok J1.kIn q
    refine enum_pie J1 (begins_list a its.toArray) ⟨o, ho, hc, n, hd⟩ (fun e it => turn_enum a e it) (fun h' he hi => ?_) hR
    exact ⟨⟨_, he⟩, ⟨_, hi, rfl, rfl⟩, Nat.succ_ne_self _⟩
/-- what item i of an enumerate over xs gives -/
def YEn (xs : List V) (i : Nat) (H : Hp) (v : V) (H' : Hp) : Prop := ∃ T x, v = .ref T ∧ H T = none ∧ H' = upd H T (.tup [.int (i : Nat), x]) ∧ xs[i]? = some x
theorem walk_enumT {K : PySem.W.Frag} {a : Addr} {xs : List V} : L2.Walk (IteT K a) xs.length (fun H => SqT K H a xs) (YEn xs) where
  goes i _ hi q := ⟨xs, xs[i], q, List.getElem?_eq_getElem hi⟩
  stops _ q := ⟨xs, q, Nat.le_refl _⟩
  yields := by
    rintro i H v H' _ q ⟨T, x, e1, e2, e3, k⟩
    exact ⟨T, x, e1, e2, e3, k xs q⟩
theorem walk_enumL {K : PySem.W.Frag} {a : Addr} {xs : List V} : L2.Walk (Ite K a) xs.length (fun H => SqL K H a xs) (YEn xs) where
  goes i _ hi q := ⟨xs, xs[i], q, List.getElem?_eq_getElem hi⟩
  stops _ q := ⟨xs, q, Nat.le_refl _⟩
  yields := by
    rintro i H v H' _ q ⟨T, x, e1, e2, e3, k⟩
    exact ⟨T, x, e1, e2, e3, k xs q⟩
theorem r_enumA {K : PySem.W.Frag} {ta : TA} {σ : L2.St} {H : Hp} {R : It → Hp → Prop} (q : ta σ H fun vs H1 => ∃ a xs, vs = [.ref a] ∧ ((SqT K H1 a xs ∧ R (IteT K a) H1) ∨ (SqL K H1 a xs ∧ R (Ite K a) H1))) : iEnumA K ta σ H R := q
end WP

set_option Elab.async false
set_option linter.all false
set_option maxRecDepth 100000
set_option maxHeartbeats 4000000
namespace WP
open PySem PySem.Spec PyProof.Rows L2
/-! ### raise -/
theorem r_mkO {C : Addr} {sp : Sp} {dvs : List V} {ta : TA} {σ : L2.St} {H : Hp} {Q : XK} (q : ta σ H fun vs H1 => vs.length ≤ 1000 ∧ ∀ a, H1 a = none → sp (.ref a :: (vs ++ dvs)) (upd H1 a (exo a C none))
  (fun v H2 => v = .non ∧ ∃ (d : Addr) (fs : List (Str × V)), H2 a = some (exo a C (some d)) ∧ H2 d = some (exd d fs) ∧ H1 d = none ∧ Q (.ref C) (some d) (upd (del H2 a) d (.xd fs))) (fun _ _ _ => False)) : tMkO C sp dvs ta σ H Q := q
def tRaise (t : L2.St → Hp → XK → Prop) (W : WX) : TS := fun _ σ H => t σ H fun cls d H' => W cls d σ H'
theorem r_raise {t : L2.St → Hp → XK → Prop} {W : WX} {D : Ends} {σ : L2.St} {H : Hp} (q : t σ H fun cls d H' => W cls d σ H') : tRaise t W D σ H := q
theorem ps_raiseA {X : Cx} {W : WX} {e : Expr} {t : L2.St → Hp → XK → Prop} {pos : Pos} (hc : X.calm = true) (tk : Takes X W) (he : PMk X e t) : PS X (.Raise (some e) none pos) (tRaise t W) := ps_raise hc tk he
/-- C(v): the exception and its one field -/
theorem mk1 {C : Addr} {f : Str} {K : PySem.W.Frag} {v : V} {H1 : Hp} {Q : XK} (q : ∀ d, H1 d = none → Q (.ref C) (some d) (upd H1 d (.xd [(f, v)]))) : [v].length ≤ 1000 ∧ ∀ a, H1 a = none → spInit1 f K C (.ref a :: ([v] ++ [])) (upd H1 a (exo a C none))
    (fun v H2 => v = .non ∧ ∃ (d : Addr) (fs : List (Str × V)), H2 a = some (exo a C (some d)) ∧ H2 d = some (exd d fs) ∧ H1 d = none ∧ Q (.ref C) (some d) (upd (del H2 a) d (.xd fs))) (fun _ _ _ => False) := by
  refine ⟨by simp, fun a ha => ⟨a, v, rfl, upd_same, fun dx hdx hne => ?_⟩⟩
  rw [upd_ne hne] at hdx
  refine ⟨rfl, dx, [(f, v)], upd_same, by rw [upd_ne hne, upd_same], hdx, ?_⟩
  have e : upd (del (upd (upd (upd H1 a (exo a C none)) dx (exd dx [(f, v)])) a (exo a C (some dx))) a) dx (.xd [(f, v)]) = upd H1 dx (.xd [(f, v)]) := by
    funext b
    by_cases hb : b = dx
    · subst hb
      rw [upd_same, upd_same]
    · rw [upd_ne hb, upd_ne hb]
      by_cases hba : b = a
      · subst hba
        rw [del_same, ha]
      · rw [del_ne hba, upd_ne hba, upd_ne hb, upd_ne hba]
  rw [e]
  exact q dx hdx
/-! ### constants as values -/
def isCnst : V → Bool
  | .non => true
  | .int i => decide (i.natAbs < 10 ^ 30)
  | .str z => isWordS z 8
  | _ => false
theorem cst_of {v : V} (h : isCnst v = true) : Cst v := by
  cases v with
  | non => exact True.intro
  | int i =>
    have h : decide (i.natAbs < 10 ^ 30) = true := h
    have h2 : i.natAbs < 10 ^ 30 := of_decide_eq_true h
    exact h2
  | str z =>
    have h : isWordS z 8 = true := h
    rw [isWordS, Bool.and_eq_true, decide_eq_true_eq, List.all_eq_true] at h
    exact ⟨by omega, fun c hc => small_mem.mp (of_decide_eq_true (h.2 c hc))⟩
  | _ => cases h
/-- the place of the first value that cannot stand -/
def dueFrom : Nat → List V → Option Nat
  | _, [] => none
  | i, v :: r => if i = 3 then some i else if isCnst v then dueFrom (i + 1) r else some i
theorem due_step {vs : List V} {i : Nat} (hi : i < vs.length) : dueFrom i (vs.drop i) = if i = 3 then some i else if isCnst (vs.getD i .non) then dueFrom (i + 1) (vs.drop (i + 1)) else some i := by
  rw [List.drop_eq_getElem_cons hi, List.getD_eq_getElem?_getD, List.getElem?_eq_getElem hi]
  rfl
theorem due_none : ∀ {vs : List V} {i : Nat}, dueFrom i vs = none → i ≤ 3 → (∀ v ∈ vs, isCnst v = true) ∧ i + vs.length ≤ 3
  | [], i, _, h => ⟨fun v hv => by (cases hv), by simpa using h⟩
  | v :: r, i, e, h => by
    unfold dueFrom at e
    split at e
    · cases e
    · split at e
      · rename_i h1 h2
        obtain ⟨a, b⟩ := due_none e (by omega)
        exact ⟨fun u hu => by rcases List.mem_cons.mp hu with rfl | hu; exact h2; exact a u hu, by rw [List.length_cons]; omega⟩
      · cases e
end WP

set_option Elab.async false
set_option linter.all false
set_option maxRecDepth 100000
set_option maxHeartbeats 4000000
namespace WP
open PySem PySem.Spec PyProof.Rows L2
/-! ### an own exception class, called -/
structure CalE (P : Program) (w : World) (K : PySem.W.Frag) (mg : Str → Option Value) (base : Heap) (k : Nat) (x : Str) (C : Addr) (sp : Sp) : Prop where
  ex : ∃ (f : Addr) (fd : FuncData) (ps : List Str), OexC K C ∧ PySem.W.findIn K (.ref C) "__init__" = some (some (.ref f)) ∧ PySem.W.typeIn K (.ref f) = some (.type "function") ∧ FnOk P w K mg base L2.CX0 k f fd ps sp ∧ Binds K fd ps [] ∧ mg x = some (.ref C)
theorem pmk_exc {X : Cx} {k j : Nat} {x : Str} {C : Addr} {sp : Sp} {e : Expr} {es : List Expr} {ta : TA} {p pos : Pos} (c : CalE X.prog X.w X.K X.mg X.base k x C sp) (hr : Room j X.A) (hk : k + 1 ≤ j) (hg : Gl X x) (ha : PA X (e :: es) ta)
    (hdb : (x == ("__debug__" : Str)) = false := by decide) (he : starEach (e :: es) X.env = (false, eval e X.env) :: starEach es X.env := by rfl) (hpl : (backTo pos (starEach es X.env)).any (·.1) = false := by rfl) :
    PMk X (.Call (.Name x p) (e :: es) [] pos) (tMkO C sp [] ta) := by
  obtain ⟨f, fd, ps, T, iC, tI, F, b, m⟩ := c.ex
  exact pmk_oex T iC tI F (hr.mono hk) b .nil L2.pass0 hg m ha hdb he hpl
/-! ### defs that may raise; defs with a star parameter -/
structure CalX (P : Program) (w : World) (K : PySem.W.Frag) (mg : Str → Option Value) (base : Heap) (k : Nat) (x : Str) (sp : Sp) : Prop where
  ex : ∃ (f : Addr) (fd : FuncData) (ps : List Str), FnOk P w K mg base (L2.CX P w) k f fd ps sp ∧ mg x = some (.ref f) ∧ PySem.W.keepIn K (.ref f) = true ∧ Binds K fd ps []
structure CalR (P : Program) (w : World) (K : PySem.W.Frag) (mg : Str → Option Value) (base : Heap) (k : Nat) (x : Str) (sp : Sp) : Prop where
  ex : ∃ (f : Addr), FnR P w K mg base (L2.CX P w) k f sp ∧ mg x = some (.ref f) ∧ PySem.W.keepIn K (.ref f) = true
section
variable {P : Program} {w : World} {K : PySem.W.Frag} {mg : Str → Option Value} {base : Heap}
theorem calX_of {x : Str} {st : Stmt} {N ps : List Str} {k : Nat} {sp : Sp} (F : At K mg x st) (S : FnScope N ps (defScope st)) (len : ∀ vs H Q E, sp vs H Q E → vs.length = ps.length)
    (hb : ∀ (kV doc pm : Value) (an : Option Addr) (cdv ct : Value) (us : List Value), us.length = ps.length → bindArgs (PySem.W.fnOf x x (defArgs st) (defBody st) (defScope st) .none kV doc pm an cdv ct) ⟨us, []⟩ = pure (ps.zip us))
    (hbody : ∀ (f : Addr) (cdv : Value) (A : Around) (outer : List Env) (s : Shared) (H : Hp) (vs : List V) (Q : VK) (E : XK), Room k (A.deeper (envOfC x (defScope st) s.heap.objs.size f cdv)) → sp vs H Q E →
      ∃ t, PSs (cxOf (L2.CX P w) P w K mg base N x (defScope st) f cdv A outer s H E) (defBody st) t ∧ t { nx := fun _ H' => Q .non H', rt := Q } (start N vs) H) : CalX P w K mg base (k + 1) x sp := by
  obtain ⟨f, fd, F, m⟩ := F.ex
  exact ⟨f, fd, ps, F.ok S len fun cdv A outer s H vs Q E hr hsp => hbody f cdv A outer s H vs Q E hr hsp, m, F.kp, F.bindsN hb⟩
theorem calR_of {x : Str} {st : Stmt} {N ps : List Str} {pv : Str} {k : Nat} {sp : Sp} (F : At K mg x st) (S : FnScope N (ps ++ [pv]) (defScope st))
    (hb : ∀ (kV doc pm : Value) (an : Option Addr) (cdv ct : Value) (us rest : List Value), us.length = ps.length → bindArgs (PySem.W.fnOf x x (defArgs st) (defBody st) (defScope st) .none kV doc pm an cdv ct) ⟨us ++ rest, []⟩ = (newTuple rest >>= fun t => pure (ps.zip us ++ [(pv, t)])))
    (hbody : ∀ (f : Addr) (cdv : Value) (A : Around) (outer : List Env) (s : Shared) (H : Hp) (vs : List V) (Q : VK) (E : XK), Room k (A.deeper (envOfC x (defScope st) s.heap.objs.size f cdv)) → sp vs H Q E →
      ∃ t, PSs (cxOf (L2.CX P w) P w K mg base N x (defScope st) f cdv A outer s H E) (defBody st) t ∧ t { nx := fun _ H' => Q .non H', rt := Q } (start N vs) H) :
    CalR P w K mg base (k + 1) x (fun vs H Q E => ∃ ws rest, vs = ws ++ rest ∧ ws.length = ps.length ∧ rest.length ≤ sizeLine ∧ ∀ p, H p = Option.none → sp (ws ++ [V.ref p]) (upd H p (.tup rest)) Q E) := by
  obtain ⟨f, fd, F, m⟩ := F.ex
  obtain ⟨oc, od, dV, kV, doc, pm, an, cdv, ct, osl, rfl, lk, hcd, hD, hK⟩ := F.ex
  rcases hD with ⟨_, rfl⟩ | ⟨e, _⟩
  · exact ⟨f, StX.fn_star lk hcd S StX.cxUp (hb kV doc pm an cdv ct) fun A outer s H vs Q E hr hsp => hbody f cdv A outer s H vs Q E hr hsp, m, F.kp⟩
  · exact absurd rfl e
end
def tCallR (sp : Sp) (E : XK) (t : TA) : TE := fun σ H Q => t σ H fun vs H1 => sp vs H1 Q E
theorem r_callR {sp : Sp} {E : XK} {t : TA} {σ : L2.St} {H : Hp} {Q : VK} (q : t σ H fun vs H1 => sp vs H1 Q E) : tCallR sp E t σ H Q := q
theorem r_callS {sp : Sp} {E : L2.St → XK} {t : TA} {σ : L2.St} {H : Hp} {Q : VK} (q : t σ H fun vs H1 => sp vs H1 Q (E σ)) : tCallS sp E t σ H Q := q
section
variable {X : Cx} {k j : Nat} {x : Str} {sp : Sp} {E : XK} {W : WX} {p pos : Pos} {e : Expr} {es : List Expr} {t : TA}
/-- f(e, ..), f with a star parameter; what it raises is the def's own -/
theorem pe_cR (c : CalR X.prog X.w X.K X.mg X.base k x sp) (hr : Room j X.A) (hk : k ≤ j) (hg : Gl X x) (tk : Takes X (fun cls d _ H => E cls d H)) (ha : PA X (e :: es) t)
    (hdb : (x == ("__debug__" : Str)) = false := by decide) (he : starEach (e :: es) X.env = (false, eval e X.env) :: starEach es X.env := by rfl) (hpl : (backTo pos (starEach es X.env)).any (·.1) = false := by rfl) :
    PE X (.Call (.Name x p) (e :: es) [] pos) (tCallR sp E t) := by
  obtain ⟨f, F, hm, kp⟩ := c.ex
  refine ⟨fun pins s σ H Q I h => ?_⟩
  refine wpAny_Call_Name_kw (ld_glob I hg hm ?_ hdb)
  refine PySem.W.callWith_K (h₀ := X.base) I.ok.mod.kin kp (thn (ha.run pos pins s σ H _ I h) fun us s1 ⟨vs, H1, I1, r, q⟩ => ⟨I1.kIn, ?_⟩) he hpl
  exact wpAny_call (run_fnR F (hr.mono hk) (passes_call tk fun _ _ _ _ h => h) I1 r q)
/-- f(e, ..) within a try -/
theorem pe_cX (c : CalX X.prog X.w X.K X.mg X.base k x sp) (hr : Room j X.A) (hk : k ≤ j) (hg : Gl X x) (tk : Takes X W) (ha : PA X (e :: es) t)
    (hdb : (x == ("__debug__" : Str)) = false := by decide) (he : starEach (e :: es) X.env = (false, eval e X.env) :: starEach es X.env := by rfl) (hpl : (backTo pos (starEach es X.env)).any (·.1) = false := by rfl) :
    PE X (.Call (.Name x p) (e :: es) [] pos) (tCallS sp (WE W) t) := by
  obtain ⟨f, fd, ps, F, hm, kp, b⟩ := c.ex
  exact pe_callS F (hr.mono hk) hg hm kp b (fun σ => passAt tk σ) ha hdb he hpl
end
theorem r_par3 {i j l : Nat} {ta : TA} {D : Ends} {σ : L2.St} {H : Hp} (q : ta σ H fun vs H1 => ∃ u v w, vs = [u, v, w] ∧ D.nx (((σ.set i (some u)).set j (some v)).set l (some w)) H1) : tPar3 i j l ta D σ H := q
end WP

set_option Elab.async false
set_option linter.all false
set_option maxRecDepth 100000
set_option maxHeartbeats 4000000
/-! dict(a written tuple of pairs) -/
namespace WP
open PySem PySem.Spec PyProof.Rows L2
theorem pairs_ofT {X : Cx} {pins : List (Addr × Obj)} {σ : L2.St} {H : Hp} {s : Shared} (I : Inv X pins σ H s) : ∀ {ps : List Addr} {kvs : List (Key × V)}, Paired (fun p kv => SqT X.K H p [kV kv.1, kv.2]) ps kvs →
    ∃ (prs : List (Key × Value)) (us : List (Value × Value)), KV kvs prs ∧ prs.length = ps.length ∧ us.length = ps.length ∧ ∀ (j : Nat) (k v : Value), us[j]? = some (k, v) → ∃ (b : Addr) (q : Key), ps[j]? = some b ∧ prs[j]? = some (q, v) ∧ IsTup s.heap b #[k, v] ∧ keyIs q k = true
  | _, _, .nil => ⟨[], [], .nil, rfl, rfl, fun j k v e => by simp at e⟩
  | _, _, .cons (a := p) (b := kv) h t => by
    obtain ⟨prs, us, r, hl, hl2, hp⟩ := pairs_ofT I t
    obtain ⟨its, rv, ht, _⟩ := I.tuple h
    obtain ⟨u, y, ei, ru, ry⟩ := vals2 rv
    subst ei
    refine ⟨(kv.1, y) :: prs, (u, y) :: us, .cons ⟨rfl, ry⟩ r, by rw [List.length_cons, List.length_cons, hl], by rw [List.length_cons, List.length_cons, hl2], fun j k v e => ?_⟩
    cases j with
    | zero =>
      have e' : (u, y) = (k, v) := Option.some.inj e
      injection e' with e1 e2
      subst e1 e2
      exact ⟨p, kv.1, rfl, rfl, ht, kV_is (P := X.prog) (w := X.w) ru⟩
    | succ j =>
      obtain ⟨b, q, e1, e2, e3, e4⟩ := hp j k v (by simpa using e)
      exact ⟨b, q, by simpa using e1, by simpa using e2, e3, e4⟩
/-- dict(a), a the written tuple of the pairs ps -/
def rDictT (K : PySem.W.Frag) : List V → Hp → VK → Prop := fun xs H Q => ∃ (a : Addr) (o : Obj) (n : Nat) (ps : List Addr) (kvs : List (Key × V)), xs = [.ref a] ∧ K.lookup a = some o ∧ o.cls = .type "tuple" ∧ o.dict = none ∧ o.data = .seq (ps.map Value.ref).toArray n ∧ ps.length ≤ sizeLine ∧
  Paired (fun p kv => SqT K H p [kV kv.1, kv.2]) ps kvs ∧ ∀ p, H p = none → Q (.ref p) (upd H p (.dK (mergeK [] kvs)))
theorem call_dictT {X : Cx} (K : PySem.W.Frag) (hcalm : X.calm = true) (hK : X.K = K := by rfl) : CallR X (.type "dict") (rDictT K) := by
  subst hK
  intro pins s σ H xs us Q I r q
  obtain ⟨a, o, n, ps, kvs, ex, lk, hc, hd, hdat, hz, hp, q⟩ := q
  subst ex
  obtain ⟨u, eu, rx⟩ := vals1 r
  subst eu
  cases rx
  obtain ⟨prs, vs, rel, hl, hl2, hpr⟩ := pairs_ofT I hp
  have ho := I.kIn _ _ lk
  refine PySem.call_dict_pairs (knd := mixKind X.prog X.w) (kvs := prs) (PySem.PairArg.tuple a (ps.map Value.ref).toArray (fun j => ps.getD j 0) vs) (I.ok.hd hcalm) ⟨⟨o, n, ho, hc, hd, hdat⟩, by simp [hl2], fun j k v e => ?_⟩ ⟨by rw [hl, hl2], fun j k v e => ?_⟩ (by rw [hl2]; exact hz) fun h' tk hd' k => ?_
  · obtain ⟨b, q', e1, e2, e3, e4⟩ := hpr j k v e
    refine ⟨by simp [e1], ?_⟩
    have eg : ps.getD j 0 = b := by rw [List.getD_eq_getElem?_getD, e1]; rfl
    show PairAt s.heap (ps.getD j 0) k v
    rw [eg]
    exact .inl e3
  · obtain ⟨b, q', e1, e2, e3, e4⟩ := hpr j k v e
    exact ⟨q', e2, e4⟩
  · have hm : (s.heap.objs.size == sysModules) = false := beq_eq_false_iff_ne.mpr (Nat.ne_of_gt I.big)
    have hlen : (mergeK [] kvs).length ≤ sizeLine := by
      refine Nat.le_trans (length_mergeK kvs []) ?_
      rw [List.length_nil, Nat.zero_add, rel.length, hl]
      exact hz
    exact ⟨.ref s.heap.objs.size, upd H s.heap.objs.size (.dK (mergeK [] kvs)), I.laid (t' := tk) (fun b o e => k b o (by simp) e) (Nat.le_refl _) (show ObjOk X.prog X.w _ _ _ (.dK (mergeK [] kvs)) from ⟨hlen, hm, merged [] prs, KV.merge rel .nil, hd'⟩), rfl, q _ (I.hok.fresh (Nat.le_refl _))⟩
end WP

set_option Elab.async false
set_option linter.all false
set_option maxRecDepth 100000
set_option maxHeartbeats 4000000
/-! own classes: len, in, ==, !=, +, static methods -/
namespace PySem.W
open PySem PySem.Calls PyProof.Rows Builtin
section
variable {prog : Program} {w : World} {A : Around} {E : Value → Shared → Prop} {s : Shared} {K : Frag} {x C f : Addr} {ox : Obj} {od : Option Obj} {b tb : Value}
/-- a slot of an own instance that a built-in fills is called as that built-in -/
theorem slot_builtin {M : Model} {name : Str} {id : String} {args : List Value} {Q : Option Value → Shared → Prop} (X : K.In s.heap) (I : InstAt s.heap x ox C od) (hs : findIn K (.ref C) name = some (some (.builtin id)))
    (hb : ∀ self, bindSpecial (.builtin id) self = pure (.builtin id, [self])) (h : wpAny M A (call (.builtin id) (.ref x :: args)) (fun v => Q (some v)) E s) : wpAny M A (callSpecialIfBound? (.ref x) name args) Q E s := by
  have ty : ∀ (R : Value → Shared → Prop) (E : Value → Shared → Prop), R (.ref C) s → wpAny M A (typeOf (.ref x)) R E s := fun R E r => I.type.here r
  have fd : ∀ (R : Option Value → Shared → Prop) (E : Value → Shared → Prop), R (some (.builtin id)) s → wpAny M A (typeLookup (.ref C) name) R E s := fun R E r => (looks_findIn X hs).here r
  have bd : ∀ (R : Value × List Value → Shared → Prop) (E : Value → Shared → Prop), R (.builtin id, [.ref x]) s → wpAny M A (bindSpecial (.builtin id) (.ref x)) R E s := fun R E r => by rw [hb]; exact wpAny_pure r
  unfold callSpecialIfBound? bindSpecialIfBound?
  wp_walk using ty, fd, bd
  have go : wpAny M A (do let v ← call (.builtin id) ([.ref x] ++ args); pure (some v)) Q E s := wpAny_bind (wpAny_mono h (fun _ _ q => wpAny_pure q) fun _ _ z => z)
  refine wpAny_askSetting ?_
  split
  · exact wpAny_bind (bd _ _ (wpAny_pure go))
  · exact wpAny_tryCatch (wpAny_bind (bd _ _ (wpAny_pure go)))
/-- x != b of an own instance whose class writes __eq__ alone: the answer of __eq__ turned round -/
theorem ne_by_eq {h₀ : Heap} {L : Addr} {m : Str → Option Value} {Q : Value → Shared → Prop} (hu : A.units + 1 < cLine) (fr : Fr h₀ L s.heap m) (X₀ : K.In h₀) (I : InstAt s.heap x ox C od) (hb : Looks (model prog w) s.heap (typeOf b) tb) (hn : notFirst K C tb = true)
    (hs : findIn K (.ref C) "__ne__" = some (some (.builtin "object.__ne__"))) (hm : mroIn K C (.type "object") = some true) (he : findIn K (.ref C) "__eq__" = some (some (.ref f))) (hf : isFn K (.ref f) = true)
    (h : wpAny (model prog w) A.in1 (call (.ref f) [.ref x, b]) (fun v s' => ∃ r, v = .bool r ∧ Q (.bool (!r)) s') E s) : wpAny (model prog w) A (richCompare .NotEq (.ref x) b) Q E s := by
  have X := X₀.keeps fr.keep
  -- what trying __ne__ gives
  have asked : wpAny (model prog w) A (tryCompare (.ref x) "__ne__" b) (fun r s' => ∃ v, r = some v ∧ Q v s') E s := by
    unfold tryCompare
    refine wpAny_bind (slot_builtin X I hs F.cmp_object.ne.bind (wpAny_call (codeAny_call_builtin F.cmp_object.ne.plain F.cmpEntry_ne ?_)))
    refine check_slot (i := "object.__ne__") (owner := "object") (n := "__ne__") F.cmpKind_ne F.cmpSplit_ne (I.type.andThen (looks_mroIn X hm)) (F.cmpArgs_ne _ _) ?_
    have eq : ∀ (R : Option Value → Shared → Prop), (∀ r s', Q (.bool (!r)) s' → R (some (.bool r)) s') → wpAny (model prog w) A.in1 (callSpecialIfBound? (.ref x) "__eq__" [b]) R E s := fun R k =>
      ifBound_K X I he hf (wpAny_mono h (fun v s' ⟨r, e, q⟩ => e ▸ k r s' q) fun _ _ z => z)
    have room : ∀ (t : String) (l : List Value) (R : Unit → Shared → Prop) (E : Value → Shared → Prop), R () s → wpAny (model prog w) A.in1 (cRoomFor t l) R E s := fun t l R E q => wpAny_cRoomFor hu q
    unfold Builtin.«object.__ne__»
    refine wpAny_bind (m := slotArgs "__ne__" 1 _) (wpAny_pure (wpAny_bind (room _ _ _ _ (wpAny_bind (eq _ fun r s' q => ?_)))))
    exact wpAny_bind (wpAny_truthy_bool (wpAny_pure (wpAny_pure ⟨_, rfl, q⟩)))
  have back : ∀ k : Option Value → Sem Value, (∀ v, k (some v) = pure v) → wpAny (model prog w) A (tryCompare (.ref x) "__ne__" b >>= k) Q E s := fun k hk =>
    wpAny_bind (wpAny_mono asked (fun r s' ⟨v, e, q⟩ => by rw [e, hk]; exact wpAny_pure q) fun _ _ z => z)
  unfold richCompare
  simp only [oneThing_ref]
  refine wpAny_holding (wpAny_bind (wpAny_cRoomFor (Nat.lt_of_succ_lt hu) ?_))
  rw [cmpInfo_NotEq]
  refine wpAny_bind (I.type.here (wpAny_bind (hb.here ?_)))
  split
  · rename_i z
    have y : subIn K tb (.ref C) = some false := by
      rcases Bool.or_eq_true_iff.mp hn with y | y
      · rw [beq_iff_eq.mp y] at z
        simp at z
      · exact beq_iff_eq.mp y
    exact wpAny_bind ((looks_subIn X y).here (back _ fun v => rfl))
  · exact wpAny_bind (wpAny_pure (back _ fun v => rfl))
end
section
variable {prog : Program} {w : World} {A : Around} {E : Value → Shared → Prop} {s : Shared} {K : Frag} {x C f : Addr} {ox : Obj} {od : Option Obj} {b : Value}
/-- x + b by the own __add__ of x's class, b of a built-in type T: its number slot answers first -/
theorem add_one {T : String} {fo ro : Option Value} {cd : ClassData} {rest : List Value} {Q : Value → Shared → Prop} (X : K.In s.heap) (I : InstAt s.heap x ox C od) (hb : Looks (model prog w) s.heap (typeOf b) (.type T)) (hcd : clsIn K C = some cd) (hm : cd.mro = .ref C :: rest)
    (hs : findIn K (.ref C) (PySem.dunder "add") = some (some (.ref f))) (hf : isFn K (.ref f) = true) (hr : findIn K (.ref C) (dunderR "add") = some none)
    (h1 : findIn K (.type T) (PySem.dunder "add") = some fo) (h2 : findIn K (.type T) (dunderR "add") = some ro) (hsub : subIn K (.type T) (.ref C) = some false)
    (h : wpAny (model prog w) A (call (.ref f) [.ref x, b]) (CmpBack Q) E s) : wpAny (model prog w) A (binaryOp1 "add" (.ref x) b) (fun r s' => ∃ v, r = some v ∧ Q v s') E s := by
  have got := ksp_try X I hs hf h
  have lt := fills_K (M := model prog w) (nm := "add") X hcd hm hs
  have rt := ksp_fillsT (M := model prog w) (nm := "add") X h1 h2
  generalize ((fo.isSome && !isSeqSlot fo) || (ro.isSome && !isSeqSlot ro)) = r0 at rt
  have py := ksp_inPy (M := model prog w) (nm := "add") X hs hr (.inl rfl)
  have a1 : ∀ (R : Value → Shared → Prop) (E : Value → Shared → Prop), R (.ref C) s → wpAny (model prog w) A (typeOf (.ref x)) R E s := fun R E q => I.type.here q
  have a2 : ∀ (R : Value → Shared → Prop) (E : Value → Shared → Prop), R (.type T) s → wpAny (model prog w) A (typeOf b) R E s := fun R E q => hb.here q
  have a3 : ∀ (R : Bool → Shared → Prop) (E : Value → Shared → Prop), R true s → wpAny (model prog w) A (fillsNumberSlot (.ref C) "add") R E s := fun R E q => lt.here q
  have a4 : ∀ (R : Bool → Shared → Prop) (E : Value → Shared → Prop), R r0 s → wpAny (model prog w) A (fillsNumberSlot (.type T) "add") R E s := fun R E q => rt.here q
  have a5 : ∀ (R : Bool → Shared → Prop) (E : Value → Shared → Prop), R false s → wpAny (model prog w) A (isSubtype (.type T) (.ref C)) R E s := fun R E q => (looks_subIn X hsub).here q
  have a6 : ∀ (R : Bool → Shared → Prop) (E : Value → Shared → Prop), R true s → wpAny (model prog w) A (numberSlotInPython (.ref C) "add") R E s := fun R E q => py.here q
  have a7 : ∀ (R : Bool → Shared → Prop) (E : Value → Shared → Prop), R false s → wpAny (model prog w) A (numberSlotInPython (.type T) "add") R E s := fun R E q => wpAny_pure q
  have a8 : ∀ (R : Option Value → Shared → Prop) (E : Value → Shared → Prop), R ro s → wpAny (model prog w) A (typeLookup (.type T) (dunderR "add")) R E s := fun R E q => (looks_findIn X h2).here q
  have a9 : ∀ k : Option Value → Sem (Option Value), (∀ v, k (some v) = pure (some v)) → wpAny (model prog w) A (tryMethod (.ref x) (PySem.dunder "add") b >>= k) (fun r s' => ∃ v, r = some v ∧ Q v s') E s := fun k hk =>
    wpAny_bind (wpAny_mono got (fun r s' ⟨v, e, q⟩ => by rw [e, hk]; exact wpAny_pure ⟨v, rfl, q⟩) fun _ _ z => z)
  have ne : (Value.ref C == Value.type T) = false := rfl
  unfold binaryOp1
  refine wpAny_bind (a1 _ _ (wpAny_bind (a2 _ _ (wpAny_bind (a3 _ _ ?_)))))
  simp only [ne, Bool.false_eq_true, if_false]
  refine wpAny_bind (a4 _ _ ?_)
  cases r0
  · simp only [Bool.and_false, Bool.false_and, Bool.true_and, Bool.false_eq_true, if_false, if_true]
    refine wpAny_bind (wpAny_pure ?_)
    simp only [Bool.false_eq_true, if_false, if_true]
    exact a9 _ fun v => rfl
  · simp only [Bool.and_true, Bool.true_and, if_true]
    refine wpAny_bind (a5 _ _ ?_)
    simp only [Bool.false_eq_true, if_false, Bool.not_false, if_true]
    refine wpAny_bind (a6 _ _ ?_)
    simp only [if_true]
    refine wpAny_bind (a7 _ _ ?_)
    simp only [Bool.not_false, if_true]
    refine wpAny_bind (a8 _ _ ?_)
    exact a9 _ fun v => rfl
/-- the operator itself -/
theorem add_own {h₀ : Heap} {L : Addr} {m : Str → Option Value} {T : String} {fo ro : Option Value} {Q : Value → Shared → Prop} (fr : Fr h₀ L s.heap m) (X₀ : K.In h₀) (I : InstAt s.heap x ox C od) (hb : Looks (model prog w) s.heap (typeOf b) (.type T)) (hc : selfFirst K C = true)
    (hs : findIn K (.ref C) (PySem.dunder "add") = some (some (.ref f))) (hf : isFn K (.ref f) = true) (hr : findIn K (.ref C) (dunderR "add") = some none)
    (h1 : findIn K (.type T) (PySem.dunder "add") = some fo) (h2 : findIn K (.type T) (dunderR "add") = some ro) (hsub : subIn K (.type T) (.ref C) = some false)
    (h : wpAny (model prog w) A (call (.ref f) [.ref x, b]) (CmpBack Q) E s) : wpAny (model prog w) A (binaryOp .Add (.ref x) b) Q E s := by
  obtain ⟨cd, rest, e1, e2⟩ := ksp_first hc
  unfold binaryOp
  refine wpAny_holding (wpAny_bind (wpAny_mono (add_one (X₀.keeps fr.keep) I hb e1 e2 hs hf hr h1 h2 hsub h) (fun r s' ⟨v, e, q⟩ => ?_) fun _ _ z => z))
  rw [e]
  exact wpAny_pure q
end
end PySem.W
namespace WP
open PySem PySem.Spec PyProof.Rows L2
/-- a method of the class at C, by its promise -/
structure CalM (P : Program) (w : World) (K : PySem.W.Frag) (mg : Str → Option Value) (base : Heap) (CX : CXT) (k : Nat) (C : Addr) (m : Str) (sp : Sp) : Prop where
  ex : ∃ (f : Addr) (fd : FuncData) (ps : List Str), FnOk P w K mg base CX k f fd ps sp ∧ Meth K C m f ∧ Binds K fd ps []
section
variable {X : Cx} {CX : CXT} {k j : Nat} {f C : Addr} {fd : FuncData} {ps : List Str} {sp : Sp} {E : XK}
theorem run_fnA {A : Around} {pins : List (Addr × Obj)} {σ : L2.St} {H : Hp} {s : Shared} {Q : VK} {us : List Value} {vs : List V} (fr : A.frames = X.A.frames) (F : FnOk X.prog X.w X.K X.mg X.base CX k f fd ps sp) (hr : Room k A) (hb : Binds X.K fd ps []) (hx : Passes CX X E)
    (I : Inv X pins σ H s) (r : Vals vs us) (h : sp vs H Q E) : wpAny (model X.prog X.w) A (call (.ref f) us) (EP X pins σ Q) X.xe s := by
  have hl := F.len _ _ _ _ h
  have e0 : Env0 X.prog X.w X.K X.mg X.base A X.stack s H := by
    have e := I.env0
    exact ⟨by rw [fr]; exact e.frames, e.mod, e.bs, e.bsz, e.funs, e.frf, e.hok, e.bare⟩
  refine wpAny_call (codeAny_mono (F.run A X.stack s H ⟨us, []⟩ us vs Q E hr e0 (by
    have := hb s us I.kIn (by rw [List.append_nil, ← r.length]; exact hl)
    simpa using this) r h) fun r s' hq => ?_)
  cases r with
  | error e => exact hx pins σ H s e s' I hq
  | ok fl =>
    cases fl with
    | ret u => exact I.after hq
    | next => exact False.elim hq
    | brk => exact False.elim hq
    | cont => exact False.elim hq
def rLenO (C : Addr) (sp : Sp) (E : XK) : List V → Hp → VK → Prop := fun xs H Q => ∃ a dx fs, xs = [.ref a] ∧ H a = some (.ins C dx fs) ∧ sp [.ref a] H (fun v H' => ∃ n : Nat, v = .int n ∧ n < 2 ^ 62 ∧ Q v H') E
theorem call_lenO (c : CalM X.prog X.w X.K X.mg X.base CX k C "__len__" sp) (hr : Room j X.A) (hk : k + 1 ≤ j) (hx : Passes CX X E) : CallR X (.builtin "len") (rLenO C sp E) := by
  intro pins s σ H xs us Q I r h
  obtain ⟨a, dx, fs, rfl, ha, h⟩ := h
  obtain ⟨u, rfl, rx⟩ := vals1 r
  cases rx
  obtain ⟨f, fd, ps, F, hm, hb⟩ := c.ex
  obtain ⟨mA, J, _⟩ := ins_get I.hok ha
  obtain ⟨od, J, _⟩ := J.look
  obtain ⟨m, hF⟩ := I.fr
  refine PySem.W.len_K hF I.ok.mod.kin J hm.at_ hm.fn ?_
  refine wpAny_mono (run_fnA (A := X.A.in1) (vs := [V.ref a]) rfl F (hr.mono hk).in1 hb hx I (.cons rfl .nil) h) (fun v s' q => ?_) fun _ _ x => x
  obtain ⟨v', H', I', rv, n, rfl, hn, q⟩ := q
  obtain ⟨t, rfl⟩ := rv
  exact ⟨⟨by omega, by omega⟩, .int n, H', I'.tok _, ⟨_, rfl⟩, q⟩
def rInO (C : Addr) (sp : Sp) (E : XK) : R2 := fun x y H Q => ∃ a dx fs, y = .ref a ∧ H a = some (.ins C dx fs) ∧ sp [.ref a, x] H (fun v H' => ∃ b, v = .bl b ∧ Q (.bl b) H') E
theorem op_inO (c : CalM X.prog X.w X.K X.mg X.base CX k C "__contains__" sp) (hr : Room j X.A) (hk : k ≤ j) (hx : Passes CX X E) : OpR X (compareOp .In) (rInO C sp E) := by
  intro pins s σ H x y v u Q I rx ry h
  obtain ⟨a, dx, fs, rfl, ha, h⟩ := h
  cases ry
  obtain ⟨f, fd, ps, F, hm, hb⟩ := c.ex
  obtain ⟨mA, J, _⟩ := ins_get I.hok ha
  obtain ⟨od, J, _⟩ := J.look
  obtain ⟨m, hF⟩ := I.fr
  refine PySem.W.in_K hF I.ok.mod.kin J hm.at_ hm.fn (wpAny_mono (run_fnA (A := X.A) (vs := [V.ref a, x]) rfl F (hr.mono hk) hb hx I (.cons rfl (.cons rx .nil)) h) (fun v s' q => ?_) fun _ _ x => x)
  obtain ⟨v', H', I', rv, b, rfl, q⟩ := q
  cases rv
  exact wpAny_truthy_bool ⟨.bl b, H', I', rfl, q⟩
def rEqO (K : PySem.W.Frag) (C : Addr) (sp : Sp) (E : XK) (neg : Bool) : R2 := fun x y H Q => ∃ a dx fs t, x = .ref a ∧ H a = some (.ins C dx fs) ∧ TyX K H y t ∧ PySem.W.notFirst K C t = true ∧ sp [.ref a, y] H (fun v H' => ∃ b, v = .bl b ∧ Q (.bl (if neg then !b else b)) H') E
theorem op_eqO (K : PySem.W.Frag) (c : CalM X.prog X.w X.K X.mg X.base CX k C "__eq__" sp) (hr : Room j X.A) (hk : k ≤ j) (hx : Passes CX X E) (hK : X.K = K := by rfl) : OpR X (compareOp .Eq) (rEqO K C sp E false) := by
  subst hK
  intro pins s σ H x y v u Q I rx ry h
  obtain ⟨a, dx, fs, t, rfl, ha, ty, nf, h⟩ := h
  cases rx
  obtain ⟨f, fd, ps, F, hm, hb⟩ := c.ex
  obtain ⟨mA, J, _⟩ := ins_get I.hok ha
  obtain ⟨od, J, _⟩ := J.look
  obtain ⟨m, hF⟩ := I.fr
  obtain ⟨P, Z, p, _⟩ := kit_of I ry ty
  refine PySem.W.cmp_ofEq (PySem.W.cmp_K (op := .Eq) (hr.mono hk).units0 hF I.ok.mod.kin J (Z.ty _ _ I.kIn p) nf hm.at_ hm.fn ?_)
  refine wpAny_mono (run_fnA (A := X.A) (vs := [V.ref a, y]) rfl F (hr.mono hk) hb hx I (.cons rfl (.cons ry .nil)) h) (fun v s' q => ?_) fun _ _ x => x
  obtain ⟨v', H', I', rv, b, rfl, q⟩ := q
  cases rv
  exact ⟨.bl b, H', I', rfl, q⟩
theorem op_neO (K : PySem.W.Frag) (c : CalM X.prog X.w X.K X.mg X.base CX k C "__eq__" sp) (hr : Room j X.A) (hk : k + 1 ≤ j) (hx : Passes CX X E) (hne : PySem.W.findIn K (.ref C) "__ne__" = some (some (.builtin "object.__ne__"))) (hmr : PySem.W.mroIn K C (.type "object") = some true) (hK : X.K = K := by rfl) : OpR X (compareOp .NotEq) (rEqO K C sp E true) := by
  subst hK
  intro pins s σ H x y v u Q I rx ry h
  obtain ⟨a, dx, fs, t, rfl, ha, ty, nf, h⟩ := h
  cases rx
  obtain ⟨f, fd, ps, F, hm, hb⟩ := c.ex
  obtain ⟨mA, J, _⟩ := ins_get I.hok ha
  obtain ⟨od, J, _⟩ := J.look
  obtain ⟨m, hF⟩ := I.fr
  obtain ⟨P, Z, p, _⟩ := kit_of I ry ty
  have hu := hr.units
  refine PySem.W.cmp_ofNotEq (PySem.W.ne_by_eq (by omega) hF I.ok.mod.kin J (Z.ty _ _ I.kIn p) nf hne hmr hm.at_ hm.fn ?_)
  refine wpAny_mono (run_fnA (A := X.A.in1) (vs := [V.ref a, y]) rfl F (hr.mono hk).in1 hb hx I (.cons rfl (.cons ry .nil)) h) (fun v s' q => ?_) fun _ _ x => x
  obtain ⟨v', H', I', rv, b, rfl, q⟩ := q
  cases rv
  exact ⟨b, rfl, .bl (!b), H', I', rfl, q⟩
/-- what the written part says of + with a value of the built-in type T -/
structure AddT (K : PySem.W.Frag) (C : Addr) (T : String) : Prop where
  sf : PySem.W.selfFirst K C = true
  ra : PySem.W.findIn K (.ref C) (dunderR "add") = some none
  fo : ∃ fo, PySem.W.findIn K (.type T) (PySem.dunder "add") = some fo
  ro : ∃ ro, PySem.W.findIn K (.type T) (dunderR "add") = some ro
  sub : PySem.W.subIn K (.type T) (.ref C) = some false
def rAddO (K : PySem.W.Frag) (C : Addr) (sp : Sp) (E : XK) : R2 := fun x y H Q => ∃ a dx fs T, x = .ref a ∧ H a = some (.ins C dx fs) ∧ TyX K H y (.type T) ∧ AddT K C T ∧ sp [.ref a, y] H (fun v H' => (∃ p, v = .ref p) ∧ Q v H') E
theorem op_addO (K : PySem.W.Frag) (c : CalM X.prog X.w X.K X.mg X.base CX k C "__add__" sp) (hr : Room j X.A) (hk : k ≤ j) (hx : Passes CX X E) (hK : X.K = K := by rfl) : OpR X (binaryOp .Add) (rAddO K C sp E) := by
  subst hK
  intro pins s σ H x y v u Q I rx ry h
  obtain ⟨a, dx, fs, T, rfl, ha, ty, ad, h⟩ := h
  cases rx
  obtain ⟨f, fd, ps, F, hm, hb⟩ := c.ex
  obtain ⟨mA, J, _⟩ := ins_get I.hok ha
  obtain ⟨od, J, _⟩ := J.look
  obtain ⟨m, hF⟩ := I.fr
  obtain ⟨P, Z, p, _⟩ := kit_of I ry ty
  obtain ⟨fo, hfo⟩ := ad.fo
  obtain ⟨ro, hro⟩ := ad.ro
  refine PySem.W.add_own hF I.ok.mod.kin J (Z.ty _ _ I.kIn p) ad.sf hm.at_ hm.fn ad.ra hfo hro ad.sub ?_
  refine wpAny_mono (run_fnA (A := X.A) (vs := [V.ref a, y]) rfl F (hr.mono hk) hb hx I (.cons rfl (.cons ry .nil)) h) (fun v s' q => ?_) fun _ _ x => x
  obtain ⟨v', H', I', rv, ⟨p, rfl⟩, q⟩ := q
  cases rv
  exact ⟨.ref p, H', I', rfl, q⟩
/-- C.m() of a static method -/
structure CalS (P : Program) (w : World) (K : PySem.W.Frag) (mg : Str → Option Value) (base : Heap) (CX : CXT) (k : Nat) (C : Addr) (m : Str) (sp : Sp) : Prop where
  ex : ∃ (p g : Addr) (fd : FuncData) (ps : List Str) (mc : Value), FnOk P w K mg base CX k g fd ps sp ∧ Binds K fd ps [] ∧ ClX.CRead K C mc ∧ PySem.W.findCls K (.ref C) mc m = some (.get (.builtin "staticmethod.__get__") (.ref p) .none (.ref C)) ∧ (∃ rest, PySem.W.recIn K p "staticmethod" = some (.ref g :: rest)) ∧ PySem.W.keepIn K (.ref g) = true
def tStat (C : Addr) (sp : Sp) (E : XK) (ta : TE) (t : TA) : TE := fun σ H Q => ta σ H fun x H1 => x = .ref C ∧ t σ H1 fun vs H2 => sp vs H2 Q E
theorem pe_stat0 {m : Str} {o : Expr} {ta : TE} {apos pos : Pos} {pl : Sem Bool} (c : CalS X.prog X.w X.K X.mg X.base CX k C m sp) (hr : Room j X.A) (hk : k ≤ j) (he : PE X o ta) (hx : Passes CX X E)
    (ht : eval (.Call (.Attribute o m apos) [] [] pos) X.env = (do
      let ov ← eval o X.env
      standAt apos.atName
      let (f, first) ← holding [ov] (getMethod ov m pl)
      callWith pos f first (backTo pos (starEach [] X.env)) (backToKw pos (keywordEach [] X.env))) := by rfl) :
    PE X (.Call (.Attribute o m apos) [] [] pos) (tStat C sp E ta tNil) := by
  obtain ⟨p, g, fd, ps, mc, F, hb, cr, at_, ⟨rest, rc⟩, kp⟩ := c.ex
  refine ⟨fun pins s σ H Q I h => ?_⟩
  refine PySem.W.methodCall_KW (pl := pl) (thn (he.run pins s σ H _ I h) fun u s1 ⟨x, H1, I1, rx, ex, q⟩ => ?_) ht
  subst ex
  obtain rfl : u = Value.ref C := rx
  refine PySem.W.method_cls I1.kIn cr.ga ?_
  refine PySem.W.cls_bind I1.kIn cr.rd at_ (wpAny_call (PySem.W.sm_get (s := { s1 with toks := s1.toks + 1 }) I1.kIn rc (PySem.W.handed_on rfl ?_)))
  have I2 : Inv X pins σ H1 { s1 with toks := s1.toks + 1 } := I1.tok _
  exact PySem.W.callWith_K0 I2.kIn kp (run_fn (us := []) F (hr.mono hk) hb .nil hx I2 .nil q)
end
end WP

set_option Elab.async false
set_option linter.all false
set_option maxRecDepth 100000
set_option maxHeartbeats 4000000
/-! families: the plain mathematics, and what a family is in the heap -/
namespace WP
open PySem PySem.Spec PyProof.Rows L2
/-! ### class names -/
theorem caps_mem {c : Nat} : c ∈ capsL ↔ 65 ≤ c ∧ c ≤ 90 := by
  unfold capsL
  rw [List.mem_map]
  constructor
  · rintro ⟨x, hx, rfl⟩
    have := List.mem_range.mp hx
    omega
  · intro h
    exact ⟨c - 65, List.mem_range.mpr (by omega), by omega⟩
theorem small_memL {c : Nat} : c ∈ smallL ↔ 97 ≤ c ∧ c ≤ 122 := by
  unfold smallL
  rw [List.mem_map]
  constructor
  · rintro ⟨x, hx, rfl⟩
    have := List.mem_range.mp hx
    omega
  · intro h
    exact ⟨c - 97, List.mem_range.mpr (by omega), by omega⟩
theorem isCls_iff {z : Str} : isClsS z = true ↔ ClsN z := by
  unfold isClsS ClsN
  constructor
  · intro h
    split at h
    · cases h
    · rename_i c r e
      simp only [Bool.and_eq_true, decide_eq_true_eq, List.all_eq_true, Bool.or_eq_true] at h
      obtain ⟨h1, h2, h3⟩ := h
      refine ⟨c, r, e, caps_mem.mp h2, fun d hd => ?_, h1⟩
      rcases h3 d (List.mem_cons_of_mem _ hd) with h | h
      · exact .inl (small_memL.mp h)
      · exact .inr (caps_mem.mp h)
  · rintro ⟨c, r, e, h1, h2, h3⟩
    rw [e]
    simp only [Bool.and_eq_true, decide_eq_true_eq, List.all_eq_true, Bool.or_eq_true]
    refine ⟨h3, caps_mem.mpr h1, fun d hd => ?_⟩
    rcases List.mem_cons.mp hd with rfl | hd
    · exact .inr (caps_mem.mpr h1)
    · rcases h2 d hd with h | h
      · exact .inl (small_memL.mpr h)
      · exact .inr (caps_mem.mpr h)
theorem ClsN.len {z : Str} (h : ClsN z) : 1 ≤ z.length ∧ z.length ≤ 12 := by
  obtain ⟨c, r, e, _, _, h3⟩ := h
  have : z.cps.toList.length = z.length := by simp [Str.length]
  rw [e, List.length_cons] at this
  omega
/-! ### families as lists of pairs -/
abbrev Prs := List (Str × Str)
def names4 : List Str := ["Error", "Failed", "Misuse", "Beyond"]
def kvs4 : List (Key × V) := [(Sum.inr "Error", .non), (Sum.inr "Failed", .str "Error"), (Sum.inr "Misuse", .str "Error"), (Sum.inr "Beyond", .str "Misuse")]
def famKeys (ps : Prs) : List Str := names4 ++ ps.map (·.1)
def famKvs (ps : Prs) : List (Key × V) := kvs4 ++ ps.map fun q => (Sum.inr q.1, V.str q.2)
theorem famKvs_keys (ps : Prs) : (famKvs ps).map (fun kv => kV kv.1) = (famKeys ps).map V.str := by
  unfold famKvs famKeys
  rw [List.map_append, List.map_append, List.map_map, List.map_map]
  rfl
theorem famKvs_length (ps : Prs) : (famKvs ps).length = 4 + ps.length := by
  unfold famKvs
  rw [List.length_append, List.length_map]
  rfl
theorem famKeys_length (ps : Prs) : (famKeys ps).length = 4 + ps.length := by
  unfold famKeys
  rw [List.length_append, List.length_map]
  rfl
theorem famKvs_fst (ps : Prs) : (famKvs ps).map (·.1) = (famKeys ps).map Sum.inr := by
  unfold famKvs famKeys
  rw [List.map_append, List.map_append, List.map_map, List.map_map]
  rfl
theorem valV_mem {kvs : List (Key × V)} {k : Key} : (valV kvs k).isSome = true ↔ k ∈ kvs.map (fun kv : Key × V => kv.1) := by
  rw [← valV_any]
  rw [List.any_eq_true, List.mem_map]
  constructor
  · rintro ⟨kv, h1, h2⟩
    exact ⟨kv, h1, of_decide_eq_true h2⟩
  · rintro ⟨kv, h1, h2⟩
    exact ⟨kv, h1, decide_eq_true h2⟩
theorem fam_in (ps : Prs) (n : Str) : (valV (famKvs ps) (Sum.inr n)).isSome = decide (n ∈ famKeys ps) := by
  rw [Bool.eq_iff_iff, valV_mem, decide_eq_true_eq]
  show Sum.inr n ∈ (famKvs ps).map (·.1) ↔ _
  rw [famKvs_fst, List.mem_map]
  constructor
  · rintro ⟨m, h1, h2⟩
    injection h2 with h2
    exact h2 ▸ h1
  · exact fun h => ⟨n, h, rfl⟩
theorem famKvs_snoc (ps : Prs) (q : Str × Str) : famKvs (ps ++ [q]) = famKvs ps ++ [(Sum.inr q.1, V.str q.2)] := by
  unfold famKvs
  rw [List.map_append, List.append_assoc]
  rfl
theorem famKeys_snoc (ps : Prs) (q : Str × Str) : famKeys (ps ++ [q]) = famKeys ps ++ [q.1] := by
  unfold famKeys
  rw [List.map_append, List.append_assoc]
  rfl
theorem fam_put {ps : Prs} {n p : Str} (h : n ∉ famKeys ps) : putK (famKvs ps) (Sum.inr n) (V.str p) = famKvs (ps ++ [(n, p)]) := by
  unfold putK
  rw [valV_any, fam_in, decide_eq_false h, if_neg (by simp), famKvs_snoc]
theorem valV_snoc {kvs : List (Key × V)} {k : Key} {v : V} (h : (valV kvs k).isSome = false) : valV (kvs ++ [(k, v)]) k = some v := by
  induction kvs with
  | nil => exact valV_pos rfl
  | cons p r ih =>
    by_cases e : p.1 = k
    · rw [valV_pos e] at h; cases h
    · rw [valV_neg e] at h
      rw [List.cons_append, valV_neg e]
      exact ih h
theorem fam_get_new {ps : Prs} {n p : Str} (h : n ∉ famKeys ps) : valV (famKvs (ps ++ [(n, p)])) (Sum.inr n) = some (V.str p) := by
  rw [famKvs_snoc]
  exact valV_snoc (by rw [fam_in, decide_eq_false h])
theorem fam_getv {ps : Prs} {n : Str} (h : n ∈ famKeys ps) : ∃ v, valV (famKvs ps) (Sum.inr n) = some v := by
  have := fam_in ps n
  rw [decide_eq_true h] at this
  exact Option.isSome_iff_exists.mp this
/-- an entry that fits behind these names: the name, the class it is directly under -/
def fitsP (ns : List Str) : PyData → Option (Str × Str)
  | .tuple [.str n, .none] => if isClsS n && !decide (n ∈ ns) then some (n, "Error") else none
  | .tuple [.str n, .str p] => if isClsS n && (!decide (n ∈ ns) && decide (p ∈ ns)) then some (n, p) else none
  | _ => none
def famD : Prs → List PyData → Nat ⊕ Prs
  | acc, [] => .inr acc
  | acc, d :: r => match fitsP (famKeys acc) d with
    | some q => famD (acc ++ [q]) r
    | none => .inl acc.length
def famOf : PyData → Int ⊕ Prs
  | .list xs => (match famD [] xs with
    | .inl k => .inl (k : Int)
    | .inr ps => .inr ps)
  | .tuple xs => (match famD [] xs with
    | .inl k => .inl (k : Int)
    | .inr ps => .inr ps)
  | _ => .inl (-1)
theorem famD_step {acc : Prs} {xs : List PyData} {i : Nat} {d : PyData} (h : xs[i]? = some d) : famD acc (xs.drop i) = match fitsP (famKeys acc) d with
    | some q => famD (acc ++ [q]) (xs.drop (i + 1))
    | none => .inl acc.length := by
  have hi : i < xs.length := (List.getElem?_eq_some_iff.mp h).1
  have e : xs[i] = d := (List.getElem?_eq_some_iff.mp h).2
  rw [List.drop_eq_getElem_cons hi, e]
  rfl
theorem fitsP_spec {ns : List Str} {d : PyData} {q : Str × Str} (h : fitsP ns d = some q) : ClsN q.1 ∧ q.1 ∉ ns ∧ (q.2 ∈ ns ∨ q.2 = "Error") := by
  unfold fitsP at h
  split at h
  · split at h
    · rename_i h1
      rw [Bool.and_eq_true] at h1
      cases h
      exact ⟨isCls_iff.mp h1.1, by simpa using h1.2, .inr rfl⟩
    · cases h
  · split at h
    · rename_i h1
      rw [Bool.and_eq_true, Bool.and_eq_true] at h1
      cases h
      exact ⟨isCls_iff.mp h1.1, by simpa using h1.2.1, .inl (by simpa using h1.2.2)⟩
    · cases h
  · cases h
/-- what a family's pairs are like -/
structure FamOk (ps : Prs) : Prop where
  nd : (famKeys ps).Nodup
  cl : ∀ n ∈ famKeys ps, ClsN n
  up : ∀ q ∈ ps, q.2 ∈ famKeys ps
  ord : ∀ (i : Nat) (q : Str × Str), ps[i]? = some q → q.2 ∈ famKeys (ps.take i)
theorem fam_nil : FamOk [] := by
  have h4 : ∀ n ∈ names4, isClsS n = true := by decide +kernel
  exact ⟨by decide +kernel, fun n h => isCls_iff.mp (h4 n (by simpa [famKeys] using h)), fun q h => (by cases h), fun i q h => (by simp at h)⟩
theorem err_in (ps : Prs) : ("Error" : Str) ∈ famKeys ps := List.mem_append_left _ (List.mem_cons_self ..)
theorem FamOk.snoc {ps : Prs} {d : PyData} {q : Str × Str} (h : FamOk ps) (e : fitsP (famKeys ps) d = some q) : FamOk (ps ++ [q]) := by
  obtain ⟨h1, h2, h3⟩ := fitsP_spec e
  have k := famKeys_snoc ps q
  have hq2 : q.2 ∈ famKeys ps := by
    rcases h3 with h3 | h3
    · exact h3
    · rw [h3]; exact err_in ps
  refine ⟨?_, fun n hn => ?_, fun r hr => ?_, fun i r hr => ?_⟩
  · rw [k, List.nodup_append]
    exact ⟨h.nd, by simp, fun a ha b hb => by rw [List.mem_singleton.mp hb]; exact fun z => h2 (z ▸ ha)⟩
  · rw [k] at hn
    rcases List.mem_append.mp hn with hn | hn
    · exact h.cl n hn
    · rw [List.mem_singleton.mp hn]; exact h1
  · rw [k]
    refine List.mem_append_left _ ?_
    rcases List.mem_append.mp hr with hr | hr
    · exact h.up r hr
    · rw [List.mem_singleton.mp hr]
      exact hq2
  · by_cases hi : i < ps.length
    · rw [List.getElem?_append_left hi] at hr
      rw [List.take_append_of_le_length (Nat.le_of_lt hi)]
      exact h.ord i r hr
    · have hi2 : i = ps.length := by
        have := (List.getElem?_eq_some_iff.mp hr).1
        rw [List.length_append, List.length_singleton] at this
        omega
      subst hi2
      rw [List.getElem?_append_right (Nat.le_refl _), Nat.sub_self] at hr
      have : q = r := by simpa using hr
      subst this
      rw [List.take_append_of_le_length (Nat.le_refl _), List.take_length]
      exact hq2
theorem famD_ok : ∀ {xs : List PyData} {acc ps : Prs}, FamOk acc → famD acc xs = .inr ps → FamOk ps ∧ ps.length = acc.length + xs.length
  | [], acc, ps, h, e => by
    have e : (Sum.inr acc : Nat ⊕ Prs) = .inr ps := e
    cases e
    exact ⟨h, rfl⟩
  | d :: r, acc, ps, h, e => by
    unfold famD at e
    split at e
    · rename_i q hq
      obtain ⟨a, b⟩ := famD_ok (h.snoc hq) e
      refine ⟨a, ?_⟩
      rw [b, List.length_append, List.length_singleton, List.length_cons]
      omega
    · cases e
theorem famD_cons (acc : Prs) (d : PyData) (r : List PyData) : famD acc (d :: r) = match fitsP (famKeys acc) d with
    | some q => famD (acc ++ [q]) r
    | none => .inl acc.length := rfl
theorem famD_nil (acc : Prs) : famD acc [] = .inr acc := rfl
theorem famD_app : ∀ {xs ys : List PyData} {acc ps : Prs}, famD acc xs = .inr ps → famD acc (xs ++ ys) = famD ps ys
  | [], ys, acc, ps, e => by
    have e : (Sum.inr acc : Nat ⊕ Prs) = .inr ps := e
    cases e
    rfl
  | d :: r, ys, acc, ps, e => by
    rw [List.cons_append]
    rw [famD_cons] at e ⊢
    cases hq : fitsP (famKeys acc) d with
    | some q =>
      rw [hq] at e
      exact famD_app e
    | none =>
      rw [hq] at e
      cases e
/-! ### the pairs as data -/
def prD (q : Str × Str) : PyData := .tuple [.str q.1, .str q.2]
theorem prD_fits {ps : Prs} {q : Str × Str} (h1 : ClsN q.1) (h2 : q.1 ∉ famKeys ps) (h3 : q.2 ∈ famKeys ps) : fitsP (famKeys ps) (prD q) = some q := by
  show (if isClsS q.1 && (!decide (q.1 ∈ famKeys ps) && decide (q.2 ∈ famKeys ps)) then some (q.1, q.2) else none) = _
  rw [isCls_iff.mpr h1, decide_eq_false h2, decide_eq_true h3]
  rfl
def decD (ps : Prs) : PyData := .tuple (ps.map prD)
theorem fam_depth (ps : Prs) : PyData.depthAll (ps.map prD) ≤ 1 := by
  induction ps with
  | nil => simp [PyData.depthAll]
  | cons q r ih =>
    rw [List.map_cons, PyData.depthAll]
    have : (prD q).depth = 1 := by simp [prD, PyData.depth, PyData.depthAll]
    omega
theorem fam_canLay {ps : Prs} (h : ∀ q ∈ ps, ClsN q.1 ∧ ClsN q.2) : PyData.canLayAll0 (ps.map prD) = true := by
  induction ps with
  | nil => simp [PyData.canLayAll0]
  | cons q r ih =>
    rw [List.map_cons, PyData.canLayAll0, ih fun p hp => h p (List.mem_cons_of_mem _ hp), Bool.and_true]
    obtain ⟨h1, h2⟩ := h q (List.mem_cons_self ..)
    simp [prD, PyData.canLay0, PyData.canLayAll0, cls_ok h1, cls_ok h2]
theorem FamOk.both {ps : Prs} (h : FamOk ps) : ∀ q ∈ ps, ClsN q.1 ∧ ClsN q.2 := fun q hq =>
  ⟨h.cl _ (List.mem_append_right _ (List.mem_map_of_mem hq)), h.cl _ (h.up q hq)⟩
theorem dec_shaped {ps : Prs} (h : FamOk ps) : SeqAt.shaped (decD ps) = true := by
  have h1 := fam_canLay h.both
  have h2 := fam_depth ps
  unfold decD SeqAt.shaped
  rw [PyData.canLay0, PyData.depth, h1, Bool.true_and]
  exact decide_eq_true (by omega)
theorem dec_fit {ps : Prs} (h : FamOk ps) (hl : ps.length ≤ 100000) : fit (decD ps) = true := by
  unfold decD
  rw [fit, List.length_map, decide_eq_true hl, Bool.true_and]
  refine fitAll_of fun d hd => ?_
  obtain ⟨q, hq, rfl⟩ := List.mem_map.mp hd
  obtain ⟨h1, h2⟩ := h.both q hq
  have l1 := h1.len
  have l2 := h2.len
  unfold prD
  rw [fit, fitAll, fitAll, fitAll, fit, fit, cls_ok h1, cls_ok h2, decide_eq_true (by omega : q.1.length ≤ 100000), decide_eq_true (by omega : q.2.length ≤ 100000)]
  rfl
theorem eqv_prD (p q : Str × Str) : PyData.eqv (prD p) (prD q) = decide (p = q) := by
  obtain ⟨a, b⟩ := p
  obtain ⟨c, d⟩ := q
  unfold prD
  by_cases h1 : a = c
  · by_cases h2 : b = d
    · subst h1 h2
      simp [PyData.eqv, PyData.eqvAll]
    · have : ¬ ((a, b) = (c, d)) := fun e => h2 (Prod.mk.inj e).2
      rw [decide_eq_false this]
      simp [PyData.eqv, PyData.eqvAll, h1, h2]
  · have : ¬ ((a, b) = (c, d)) := fun e => h1 (Prod.mk.inj e).1
    rw [decide_eq_false this]
    simp [PyData.eqv, PyData.eqvAll, h1]
theorem eqv_decAll : ∀ ps qs : Prs, PyData.eqvAll (ps.map prD) (qs.map prD) = decide (ps = qs)
  | [], [] => by simp [PyData.eqvAll]
  | [], _ :: _ => by simp [PyData.eqvAll]
  | _ :: _, [] => by simp [PyData.eqvAll]
  | p :: ps, q :: qs => by
    rw [List.map_cons, List.map_cons, PyData.eqvAll, eqv_prD, eqv_decAll ps qs]
    by_cases h1 : p = q
    · by_cases h2 : ps = qs
      · rw [h1, h2]; simp
      · rw [h1]; simp [h2]
    · simp [h1]
theorem eqv_dec (ps qs : Prs) : PyData.eqv (decD ps) (decD qs) = decide (ps = qs) := by
  unfold decD
  rw [PyData.eqv]
  exact eqv_decAll ps qs
/-! ### a family in the heap -/
def PrAt (H : Hp) (ts : List Addr) (ps : Prs) : Prop := Paired (fun t q => H t = some (.tup [.str q.1, .str q.2])) ts ps
structure IsFam (K : PySem.W.Frag) (C : Addr) (H : Hp) (x : Addr) (ps : Prs) : Prop where
  ok : FamOk ps
  few : ps.length ≤ 1000
  ex : ∃ (dx P T : Addr) (ts : List Addr), H x = some (.ins C dx [("parents", .ref P), ("declared", .ref T)]) ∧ H P = some (.dK (famKvs ps)) ∧ H T = some (.tup (ts.map V.ref)) ∧ PrAt H ts ps
theorem Paired.monoP {α β : Type} {R R' : α → β → Prop} (h : ∀ a b, R a b → R' a b) : ∀ {xs : List α} {ys : List β}, Paired R xs ys → Paired R' xs ys
  | _, _, .nil => .nil
  | _, _, .cons a r => .cons (h _ _ a) (Paired.monoP h r)
theorem PrAt.mono {H H' : Hp} (e : Evl.Ex H H') {ts : List Addr} {ps : Prs} (h : PrAt H ts ps) : PrAt H' ts ps := Paired.monoP (fun _ _ q => e _ _ q) h
theorem IsFam.mono {K : PySem.W.Frag} {C : Addr} {H H' : Hp} {x : Addr} {ps : Prs} (e : Evl.Ex H H') (h : IsFam K C H x ps) : IsFam K C H' x ps := by
  obtain ⟨ok, few, dx, P, T, ts, h1, h2, h3, h4⟩ := h
  exact ⟨ok, few, dx, P, T, ts, e _ _ h1, e _ _ h2, e _ _ h3, h4.mono e⟩
theorem PrAt.dp {K : PySem.W.Frag} {H : Hp} : ∀ {ts : List Addr} {ps : Prs}, PrAt H ts ps → DpAll K H (ts.map V.ref) (ps.map prD)
  | _, _, .nil => .nil
  | _, _, .cons a r => .cons (.tup (SqT.of a) (.cons (.str _) (.cons (.str _) .nil))) (PrAt.dp r)
theorem PrAt.length {H : Hp} : ∀ {ts : List Addr} {ps : Prs}, PrAt H ts ps → ts.length = ps.length
  | _, _, .nil => rfl
  | _, _, .cons _ r => congrArg Nat.succ (PrAt.length r)
theorem Paired.snocP {α β : Type} {R : α → β → Prop} {a : α} {b : β} (h : R a b) : ∀ {xs : List α} {ys : List β}, Paired R xs ys → Paired R (xs ++ [a]) (ys ++ [b])
  | _, _, .nil => .cons h .nil
  | _, _, .cons q r => .cons q (Paired.snocP h r)
end WP

set_option Elab.async false
set_option linter.all false
set_option maxRecDepth 100000
set_option maxHeartbeats 400000
/-! rules over own classes and dicts, K written out; readings step by step -/
namespace WP
open PySem PySem.Spec PyProof.Rows L2
theorem takes00 {X : Cx} : Takes X (fun _ _ _ _ => False) := fun _ _ x => by
  obtain ⟨_, _, _, _, _, _, _, _, _, _, _, _, _, _, _, _, z⟩ := x
  exact z.elim
/-- no exception is let out -/
theorem passF {X : Cx} : Passes (L2.CX X.prog X.w) X L2.E0 := passes_call takes00 fun _ _ _ _ h => h
theorem passT {X : Cx} {E : XK} (tk : Takes X (fun cls d _ H => E cls d H)) : Passes (L2.CX X.prog X.w) X E := passes_call tk fun _ _ _ _ h => h
theorem passAt_of {X : Cx} {CX : CXT} {E : XK} (h : Passes CX X E) (σ : L2.St) : PassesAt CX X σ E := fun pins H s e s' I c => h pins σ H s e s' I c
section
variable {X : Cx}
def rInD : R2 := fun x y H Q => ∃ a o, y = .ref a ∧ DGet H a x o ∧ Q (.bl o.isSome) H
def rNotInD : R2 := fun x y H Q => ∃ a o, y = .ref a ∧ DGet H a x o ∧ Q (.bl (!o.isSome)) H
theorem op_inD (hu : X.A.units + 1 < cLine) : OpR X (compareOp .In) rInD := by
  rintro pins s σ H x y v u Q I rx ry ⟨a, o, rfl, g, q⟩
  cases ry
  exact d_in hu I g rx fun s3 I3 => ⟨.bl o.isSome, H, I3, rfl, q⟩
theorem op_notInD (hu : X.A.units + 1 < cLine) : OpR X (compareOp .NotIn) rNotInD := by
  rintro pins s σ H x y v u Q I rx ry ⟨a, o, rfl, g, q⟩
  cases ry
  exact d_notIn hu I g rx fun s3 I3 => ⟨.bl (!o.isSome), H, I3, rfl, q⟩
def rListD : List V → Hp → VK → Prop := fun xs H Q => ∃ (a : Addr) (kvs : List (Key × V)), xs = [.ref a] ∧ Rd H a (.dK kvs) ∧ ∀ p, H p = none → Q (.ref p) (upd H p (.lst (kvs.map fun kv => kV kv.1)))
theorem call_listDA (hc : X.calm = true) : CallR X (.type "list") rListD := call_listD hc
def rLenD : List V → Hp → VK → Prop := fun xs H Q => ∃ a kvs, xs = [V.ref a] ∧ H a = some (.dK kvs) ∧ Q (.int kvs.length) H
theorem call_lenDA : CallR X (.builtin "len") rLenD := call_lenD
theorem pe_fldA (K : PySem.W.Frag) {e : Expr} {f : Str} {pos : Pos} {ta : TE} (he : PE X e ta) (hb : attributeBase e f X.env (eval e X.env) = eval e X.env := by rfl) (hK : X.K = K := by rfl) : PE X (.Attribute e f pos) (tFld K ta f) := by
  subst hK; exact pe_fld he hb
theorem ps_fldA (K : PySem.W.Frag) {o value : Expr} {f : Str} {pos pos' : Pos} {ta tv : TE} (ha : PE X o ta) (hv : PE X value tv) (hs : swapsWith value (some (.Attribute o f pos')) pos.line X.env = pure false := by rfl) (hK : X.K = K := by rfl) : PS X (.Assign [.Attribute o f pos'] value pos) (sFld K ta tv f) := by
  subst hK; exact ps_fld ha hv hs
theorem pa_starA (K : PySem.W.Frag) {e : Expr} {es : List Expr} {p : Pos} {te : TE} {t : TA} (he : PE X e te) (hr : PA X es t) (hs : starEach (.Starred e p :: es) X.env = (true, eval e X.env) :: starEach es X.env := by rfl) (hK : X.K = K := by rfl) : PA X (.Starred e p :: es) (StX.tStar K te t) := by
  subst hK; exact StX.pa_star he hr hs
/-! ### methods, instances -/
variable {CX : CXT} {k j : Nat} {C : Addr} {sp : Sp} {E : XK} {W : WX} {o e : Expr} {es : List Expr} {m x : Str} {apos pos p : Pos} {ta : TE} {t : TA} {pl : Sem Bool}
theorem pe_cM (c : CalM X.prog X.w X.K X.mg X.base CX k C m sp) (hr : Room j X.A) (hk : k ≤ j) (cl : Cls X.K C) (hx : Passes CX X E) (he : PE X o ta) (ha : PA X (e :: es) t)
    (hst : starEach (e :: es) X.env = (false, eval e X.env) :: starEach es X.env := by rfl) (hpl : (backTo pos (starEach es X.env)).any (·.1) = false := by rfl)
    (ht : eval (.Call (.Attribute o m apos) (e :: es) [] pos) X.env = (do
      let ov ← eval o X.env
      standAt apos.atName
      let (f, first) ← holding [ov] (getMethod ov m pl)
      callWith pos f first (backTo pos (starEach (e :: es) X.env)) (backToKw pos (keywordEach [] X.env))) := by rfl) :
    PE X (.Call (.Attribute o m apos) (e :: es) [] pos) (tMeth C m sp [] E ta t) := by
  obtain ⟨f, fd, ps, F, hm, hb⟩ := c.ex
  exact pe_meth he cl hm F (hr.mono hk) hb .nil hx ha hst hpl ht
theorem pe_cM0 (c : CalM X.prog X.w X.K X.mg X.base CX k C m sp) (hr : Room j X.A) (hk : k ≤ j) (cl : Cls X.K C) (hx : Passes CX X E) (he : PE X o ta)
    (ht : eval (.Call (.Attribute o m apos) [] [] pos) X.env = (do
      let ov ← eval o X.env
      standAt apos.atName
      let (f, first) ← holding [ov] (getMethod ov m pl)
      callWith pos f first (backTo pos (starEach [] X.env)) (backToKw pos (keywordEach [] X.env))) := by rfl) :
    PE X (.Call (.Attribute o m apos) [] [] pos) (tMeth C m sp [] E ta tNil) := by
  obtain ⟨f, fd, ps, F, hm, hb⟩ := c.ex
  exact pe_meth0 he cl hm F (hr.mono hk) hb .nil hx ht
/-- the class at C, made by its __init__ -/
structure CalC (P : Program) (w : World) (K : PySem.W.Frag) (mg : Str → Option Value) (base : Heap) (CX : CXT) (k : Nat) (x : Str) (C : Addr) (sp : Sp) : Prop where
  ex : ∃ (f : Addr) (fd : FuncData) (ps : List Str), FnOk P w K mg base CX k f fd ps sp ∧ Mk K C f ∧ Binds K fd ps [] ∧ mg x = some (.ref C)
theorem pe_mk (c : CalC X.prog X.w X.K X.mg X.base CX k x C sp) (hr : Room j X.A) (hk : k + 1 ≤ j) (hg : Gl X x) (hx : Passes CX X E) (ha : PA X (e :: es) t)
    (hdb : (x == ("__debug__" : Str)) = false := by decide) (he : starEach (e :: es) X.env = (false, eval e X.env) :: starEach es X.env := by rfl) (hpl : (backTo pos (starEach es X.env)).any (·.1) = false := by rfl) :
    PE X (.Call (.Name x p) (e :: es) [] pos) (tMake C sp [] E t) := by
  obtain ⟨f, fd, ps, F, M, hb, hm⟩ := c.ex
  exact pe_make M F (hr.mono hk) hg hm hb .nil hx ha hdb he hpl
/-! ### within a try -/
theorem run_fnAS {f : Addr} {fd : FuncData} {ps : List Str} {A : Around} {pins : List (Addr × Obj)} {σ : L2.St} {H : Hp} {s : Shared} {Q : VK} {us : List Value} {vs : List V} (fr : A.frames = X.A.frames) (F : FnOk X.prog X.w X.K X.mg X.base CX k f fd ps sp) (hr : Room k A) (hb : Binds X.K fd ps []) (hx : PassesAt CX X σ E)
    (I : Inv X pins σ H s) (r : Vals vs us) (h : sp vs H Q E) : wpAny (model X.prog X.w) A (call (.ref f) us) (EP X pins σ Q) X.xe s := by
  have e := I.env0
  have bound := hb s us I.kIn (by rw [List.append_nil, ← r.length]; exact F.len _ _ _ _ h)
  rw [List.append_nil] at bound
  refine wpAny_call (codeAny_mono (F.run A X.stack s H ⟨us, []⟩ us vs Q E hr ⟨fr.trans e.frames, e.mod, e.bs, e.bsz, e.funs, e.frf, e.hok, e.bare⟩ bound r h) ?_)
  rintro (x | fl) s' out
  · exact hx pins H s x s' I out
  · cases fl <;> first | exact I.after out | exact out.elim
def tAddOS (K : PySem.W.Frag) (C : Addr) (sp : Sp) (W : WX) (ta tb : TE) : TE := fun σ H Q => ta σ H fun x H1 => tb σ H1 fun y H2 => rAddO K C sp (WE W σ) x y H2 Q
theorem pe_addOS (K : PySem.W.Frag) {a b : Expr} {tb : TE} (c : CalM X.prog X.w X.K X.mg X.base (L2.CX X.prog X.w) k C "__add__" sp) (hr : Room j X.A) (hk : k ≤ j) (tk : Takes X W) (ha : PE X a ta) (hb : PE X b tb) (hK : X.K = K := by rfl) : PE X (.BinOp a .Add b pos) (tAddOS K C sp W ta tb) := by
  subst hK
  refine ⟨fun pins s σ H Q I h => ?_⟩
  refine wpAny_BinOp (binT (R := fun x y H2 => rAddO X.K C sp (WE W σ) x y H2 Q) ha hb I h fun v u s2 x y H2 I rx ry h => ?_)
  obtain ⟨a, dx, fs, T, rfl, ha, ty, ad, h⟩ := h
  cases rx
  obtain ⟨f, fd, ps, F, hm, hb⟩ := c.ex
  obtain ⟨mA, J, _⟩ := ins_get I.hok ha
  obtain ⟨od, J, _⟩ := J.look
  obtain ⟨m, hF⟩ := I.fr
  obtain ⟨P, Z, p, _⟩ := kit_of I ry ty
  obtain ⟨fo, hfo⟩ := ad.fo
  obtain ⟨ro, hro⟩ := ad.ro
  refine PySem.W.add_own hF I.ok.mod.kin J (Z.ty _ _ I.kIn p) ad.sf hm.at_ hm.fn ad.ra hfo hro ad.sub ?_
  refine wpAny_mono (run_fnAS (A := X.A) (vs := [V.ref a, y]) rfl F (hr.mono hk) hb (passAt tk σ) I (.cons rfl (.cons ry .nil)) h) (fun v s' q => ?_) fun _ _ x => x
  obtain ⟨v', H', I', rv, ⟨p, rfl⟩, q⟩ := q
  cases rv
  exact ⟨.ref p, H', I', rfl, q⟩
def tMakeS (C : Addr) (sp : Sp) (W : WX) (t : TA) : TE := fun σ H Q => t σ H fun vs H1 => ∀ x dx, H1 x = none → H1 dx = none → dx ≠ x →
  sp (.ref x :: (vs ++ [])) (upd (upd H1 dx (.own x)) x (.ins C dx [])) (fun v H2 => v = .non ∧ Q (.ref x) H2) (WE W σ)
theorem run_makeS {f : Addr} {fd : FuncData} {ps : List Str} {pins : List (Addr × Obj)} {σ : L2.St} {H : Hp} {s : Shared} {Q : VK} {us : List Value} {vs : List V} (M : Mk X.K C f) (F : FnOk X.prog X.w X.K X.mg X.base CX k f fd ps sp) {dvs : List V} {ds : List Value} (hr : Room (k + 1) X.A) (hb : Binds X.K fd ps ds) (hd : Vals dvs ds)
    (hx : PassesAt CX X σ E) (I : Inv X pins σ H s) (r : Vals vs us)
    (h : ∀ x dx, H x = none → H dx = none → dx ≠ x → sp (.ref x :: (vs ++ dvs)) (upd (upd H dx (.own x)) x (.ins C dx [])) (fun v H2 => v = .non ∧ Q (.ref x) H2) E) :
    wpAny (model X.prog X.w) X.A (call (.ref C) us) (EP X pins σ Q) X.xe s := by
  have J := Inv.made (C := C) I
  have want := h (s.heap.objs.size + 1) s.heap.objs.size (I.hok.fresh (Nat.le_add_right _ 1)) (I.hok.fresh (Nat.le_refl _)) (Nat.ne_of_lt (Nat.lt_add_one _))
  have args : Vals (V.ref (s.heap.objs.size + 1) :: (vs ++ dvs)) (Value.ref (s.heap.objs.size + 1) :: (us ++ ds)) := .cons rfl (r.append hd)
  have many : (Value.ref (s.heap.objs.size + 1) :: us ++ ds).length = ps.length := args.length.symm.trans (F.len _ _ _ _ want)
  have ran := F.run _ X.stack _ _ ⟨Value.ref (s.heap.objs.size + 1) :: us, []⟩ _ _ _ E (hr.make C us []) (J.env0.make C us []) (hb _ _ J.kIn many) args want
  refine wpAny_call (make_map I.kIn M.makes M.init (beq_iff_eq.mp M.fn) (codeAny_mono ran ?_))
  rintro (e | fl) s' out
  · exact hx pins _ _ e s' J out
  · cases fl <;> try exact out.elim
    obtain ⟨v, H', J', rv, rfl, q⟩ := J.after out
    exact ⟨rv, .ref (s.heap.objs.size + 1), H', J', rfl, q⟩
theorem pe_mkS (c : CalC X.prog X.w X.K X.mg X.base (L2.CX X.prog X.w) k x C sp) (hr : Room j X.A) (hk : k + 1 ≤ j) (hg : Gl X x) (tk : Takes X W) (ha : PA X (e :: es) t)
    (hdb : (x == ("__debug__" : Str)) = false := by decide) (he : starEach (e :: es) X.env = (false, eval e X.env) :: starEach es X.env := by rfl) (hpl : (backTo pos (starEach es X.env)).any (·.1) = false := by rfl) :
    PE X (.Call (.Name x p) (e :: es) [] pos) (tMakeS C sp W t) := by
  obtain ⟨f, fd, ps, F, M, hb, hm⟩ := c.ex
  refine ⟨fun pins s σ H Q I h => ?_⟩
  refine wpAny_Call_Name_kw (ld_glob I hg hm ?_ hdb)
  refine PySem.W.callWith_K (h₀ := X.base) I.ok.mod.kin M.kp (thn (ha.run pos pins s σ H _ I h) fun us s1 ⟨vs, H1, I1, r, q⟩ => ⟨I1.kIn, ?_⟩) he hpl
  exact run_makeS M F (hr.mono hk) hb .nil (passAt tk σ) I1 r q
def tMethX (C : Addr) (m : Str) (sp : Sp) (W : WX) (ta : TE) (t : TA) : TE := fun σ H Q => ta σ H fun x H1 => ∃ a dx fs, x = .ref a ∧ H1 a = some (.ins C dx fs) ∧ fs.lookup m = none ∧ t σ H1 fun vs H2 => sp (x :: vs) H2 Q (WE W σ)
theorem pe_cMX (c : CalM X.prog X.w X.K X.mg X.base (L2.CX X.prog X.w) k C m sp) (hr : Room j X.A) (hk : k ≤ j) (cl : Cls X.K C) (tk : Takes X W) (he : PE X o ta) (ha : PA X (e :: es) t)
    (hst : starEach (e :: es) X.env = (false, eval e X.env) :: starEach es X.env := by rfl) (hpl : (backTo pos (starEach es X.env)).any (·.1) = false := by rfl)
    (ht : eval (.Call (.Attribute o m apos) (e :: es) [] pos) X.env = (do
      let ov ← eval o X.env
      standAt apos.atName
      let (f, first) ← holding [ov] (getMethod ov m pl)
      callWith pos f first (backTo pos (starEach (e :: es) X.env)) (backToKw pos (keywordEach [] X.env))) := by rfl) :
    PE X (.Call (.Attribute o m apos) (e :: es) [] pos) (tMethX C m sp W ta t) := by
  obtain ⟨f, fd, ps, F, hm, hb⟩ := c.ex
  constructor
  intro pins s σ H Q I h
  refine PySem.W.methodCall_KW (pl := pl) (thn (he.run pins s σ H _ I h) ?_) ht
  rintro u s1 ⟨_, H1, J, rx, a, dx, fs, rfl, ea, lk, q⟩
  cases rx
  refine getmeth_ok J ea cl hm lk (PySem.W.callWith_K (first := [.ref a]) (h₀ := X.base) I.ok.mod.kin hm.kp (thn (ha.run pos pins s1 σ H1 _ J q) ?_) hst hpl)
  rintro us s2 ⟨vs, H2, J2, r, q2⟩
  exact ⟨J2.kIn, L2.run_fnS (E := WE W) (us := .ref a :: us) (vs := .ref a :: vs) F (hr.mono hk) hb (passAt tk σ) J2 (.cons rfl r) q2⟩
end
/-! ### a method's promise from its body -/
section
variable {P : Program} {w : World} {K : PySem.W.Frag} {mg : Str → Option Value} {base : Heap}
/-- what the head tells of one method -/
structure AtM (K : PySem.W.Frag) (C : Addr) (m qual : Str) (st : Stmt) : Prop where
  ex : ∃ (f : Addr) (fd : FuncData), FunD K m qual (defArgs st) (defBody st) (defScope st) [] [] f fd ∧ Meth K C m f
theorem calM_of {C : Addr} {m qual : Str} {st : Stmt} {N ps : List Str} {k : Nat} {sp : Sp} (F : AtM K C m qual st) (S : FnScope N ps (defScope st)) (len : ∀ vs H Q E, sp vs H Q E → vs.length = ps.length)
    (hb : ∀ (kV doc pm : Value) (an : Option Addr) (cdv ct : Value) (us : List Value), us.length = ps.length → bindArgs (PySem.W.fnOf m qual (defArgs st) (defBody st) (defScope st) .none kV doc pm an cdv ct) ⟨us, []⟩ = pure (ps.zip us))
    (hbody : ∀ (f : Addr) (cdv : Value) (A : Around) (outer : List Env) (s : Shared) (H : Hp) (vs : List V) (Q : VK) (E : XK), Room k (A.deeper (envOfC qual (defScope st) s.heap.objs.size f cdv)) → sp vs H Q E →
      ∃ t, PSs (cxOf L2.CX0 P w K mg base N qual (defScope st) f cdv A outer s H E).nox (defBody st) t ∧ t { nx := fun _ H' => Q .non H', rt := Q } (start N vs) H) : CalM P w K mg base L2.CX0 (k + 1) C m sp := by
  obtain ⟨f, fd, F, hm⟩ := F.ex
  refine ⟨f, fd, ps, F.ok S len fun cdv A outer s H vs Q E hr hsp => ?_, hm, F.bindsN hb⟩
  obtain ⟨t, h, q⟩ := hbody f cdv A outer s H vs Q E hr hsp
  exact ⟨t, h.nox, q⟩
theorem calMX_of {C : Addr} {m qual : Str} {st : Stmt} {N ps : List Str} {k : Nat} {sp : Sp} (F : AtM K C m qual st) (S : FnScope N ps (defScope st)) (len : ∀ vs H Q E, sp vs H Q E → vs.length = ps.length)
    (hb : ∀ (kV doc pm : Value) (an : Option Addr) (cdv ct : Value) (us : List Value), us.length = ps.length → bindArgs (PySem.W.fnOf m qual (defArgs st) (defBody st) (defScope st) .none kV doc pm an cdv ct) ⟨us, []⟩ = pure (ps.zip us))
    (hbody : ∀ (f : Addr) (cdv : Value) (A : Around) (outer : List Env) (s : Shared) (H : Hp) (vs : List V) (Q : VK) (E : XK), Room k (A.deeper (envOfC qual (defScope st) s.heap.objs.size f cdv)) → sp vs H Q E →
      ∃ t, PSs (cxOf (L2.CX P w) P w K mg base N qual (defScope st) f cdv A outer s H E) (defBody st) t ∧ t { nx := fun _ H' => Q .non H', rt := Q } (start N vs) H) : CalM P w K mg base (L2.CX P w) (k + 1) C m sp := by
  obtain ⟨f, fd, F, hm⟩ := F.ex
  exact ⟨f, fd, ps, F.ok S len fun cdv A outer s H vs Q E hr hsp => hbody f cdv A outer s H vs Q E hr hsp, hm, F.bindsN hb⟩
theorem calC_of {x : Str} {C : Addr} {k : Nat} {CX : CXT} {sp : Sp} (c : CalM P w K mg base CX k C "__init__" sp) (mk : ∃ f, Mk K C f) (hm : mg x = some (.ref C)) : CalC P w K mg base CX k x C sp := by
  obtain ⟨f, fd, ps, F, m, hb⟩ := c.ex
  obtain ⟨f', M⟩ := mk
  have e := m.at_.symm.trans M.init
  cases e
  exact ⟨f, fd, ps, F, M, hb, hm⟩
theorem CalM.imp {C : Addr} {m : Str} {k : Nat} {CX : CXT} {sp sp' : Sp} (c : CalM P w K mg base CX k C m sp) (h : ∀ vs H Q E, sp' vs H Q E → sp vs H Q E) : CalM P w K mg base CX k C m sp' := by
  obtain ⟨f, fd, ps, F, m, hb⟩ := c.ex
  exact ⟨f, fd, ps, F.imp h, m, hb⟩
end
theorem ps_never {X : Cx} {st : Stmt} : PS X st (fun _ _ _ => False) := ⟨fun _ _ _ _ _ _ h => h.elim⟩
/-! ### readings -/
section
variable {K : PySem.W.Frag} {σ : L2.St} {H : Hp} {Q : VK} {ta tb tx te : TE} {t : TA} {C : Addr} {m f : Str} {sp : Sp} {dvs : List V} {E : XK} {W : WX} {D : Ends}
theorem r_fld (q : ta σ H fun x H1 => ∃ a C dx fs v, x = .ref a ∧ H1 a = some (.ins C dx fs) ∧ Cls K C ∧ NoAttr K C f ∧ fs.lookup f = some v ∧ Q v H1) : tFld K ta f σ H Q := q
theorem r_fldS (q : tb σ H fun y H1 => ta σ H1 fun x H2 => ∃ a C dx fs, x = .ref a ∧ H2 a = some (.ins C dx fs) ∧ Cls K C ∧ NoAttr K C f ∧ fs.length < 1000 ∧ D.nx σ (upd H2 a (.ins C dx (putF f y fs)))) : sFld K ta tb f D σ H := q
theorem r_meth (q : ta σ H fun x H1 => ∃ a dx fs, x = .ref a ∧ H1 a = some (.ins C dx fs) ∧ fs.lookup m = none ∧ t σ H1 fun vs H2 => sp (x :: (vs ++ dvs)) H2 Q E) : tMeth C m sp dvs E ta t σ H Q := q
theorem r_methX (q : ta σ H fun x H1 => ∃ a dx fs, x = .ref a ∧ H1 a = some (.ins C dx fs) ∧ fs.lookup m = none ∧ t σ H1 fun vs H2 => sp (x :: vs) H2 Q (WE W σ)) : tMethX C m sp W ta t σ H Q := q
theorem r_make (q : t σ H fun vs H1 => ∀ x dx, H1 x = none → H1 dx = none → dx ≠ x → sp (.ref x :: (vs ++ dvs)) (upd (upd H1 dx (.own x)) x (.ins C dx [])) (fun v H2 => v = .non ∧ Q (.ref x) H2) E) : tMake C sp dvs E t σ H Q := q
theorem r_makeS (q : t σ H fun vs H1 => ∀ x dx, H1 x = none → H1 dx = none → dx ≠ x → sp (.ref x :: (vs ++ [])) (upd (upd H1 dx (.own x)) x (.ins C dx [])) (fun v H2 => v = .non ∧ Q (.ref x) H2) (WE W σ)) : tMakeS C sp W t σ H Q := q
theorem r_addOS (q : ta σ H fun x H1 => tb σ H1 fun y H2 => rAddO K C sp (WE W σ) x y H2 Q) : tAddOS K C sp W ta tb σ H Q := q
theorem r_dgetT (q : ta σ H fun x H1 => tb σ H1 fun y H2 => ∃ a v, x = .ref a ∧ DGet H2 a y (some v) ∧ Q v H2) : tDGet ta tb σ H Q := q
theorem r_dputT (q : tx σ H fun v H1 => ta σ H1 fun x H2 => tb σ H2 fun y H3 => ∃ a H4, x = .ref a ∧ DPut H3 a y v H4 ∧ D.nx σ H4) : sDPut ta tb tx D σ H := q
theorem r_dget2T (q : ta σ H fun x H1 => ∃ a, x = .ref a ∧ IsD H1 a ∧ tb σ H1 fun y H2 => tx σ H2 fun z H3 => ∃ o, DGet H3 a y o ∧ Q (o.getD z) H3) : tDGet2 ta tb tx σ H Q := q
theorem r_starT {QA : List V → Hp → Prop} (q : te σ H fun x H1 => ∃ p xs, x = V.ref p ∧ (SqT K H1 p xs ∨ SqL K H1 p xs) ∧ t σ H1 fun ys H2 => QA (xs ++ ys) H2) : StX.tStar K te t σ H QA := q
theorem r_statT (q : ta σ H fun x H1 => x = .ref C ∧ t σ H1 fun vs H2 => sp vs H2 Q E) : tStat C sp E ta t σ H Q := q
/-- a field whose place is known -/
theorem fld_of {a dx : Addr} {fs : List (Str × V)} {v : V} (h : H a = some (.ins C dx fs)) (cl : Cls K C) (n : NoAttr K C f) (l : fs.lookup f = some v) (q : Q v H) : ∃ a' C' dx' fs' v', V.ref a = .ref a' ∧ H a' = some (.ins C' dx' fs') ∧ Cls K C' ∧ NoAttr K C' f ∧ fs'.lookup f = some v' ∧ Q v' H := ⟨a, C, dx, fs, v, rfl, h, cl, n, l, q⟩
end
/-! ### enumerate of what stands in a slot -/
theorem r_enumV {K : PySem.W.Frag} {σ : L2.St} {H : Hp} {R : It → Hp → Prop} {i : Nat} {a : Addr} {xs : List V} {H0 : Hp} (hv : σ[i]? = some (some (.ref a))) (h : SqA K H0 a xs) (e0 : Evl.Ex H0 H)
    (q : ∀ (J : It) (G : Hp → Prop), L2.Walk J xs.length G (fun i H v H' => ∃ T x, v = .ref T ∧ H T = none ∧ H' = upd H T (.tup [.int (i : Nat), x]) ∧ xs[i]? = some x) → (∀ H', Evl.Ex H0 H' → G H') → R J H) : iEnumA K (tCons (tVar i) tNil) σ H R := by
  refine r_enumA (r_cons (r_var hv (r_nil ⟨a, xs, rfl, ?_⟩)))
  rcases h with h | h
  · exact .inr ⟨Evl.ex_l e0 h, q _ _ walk_enumL fun H' e => Evl.ex_l e h⟩
  · exact .inl ⟨Evl.ex_t e0 h, q _ _ walk_enumT fun H' e => Evl.ex_t e h⟩
/-! ### what is new -/
theorem nov_mono {H H1 H2 : Hp} (e : Evl.Ex H1 H2) : Evl.Ex (nov H H1) (nov H H2) := fun a o h => by
  obtain ⟨h1, h2⟩ := nov_get h
  exact nov_of h1 (e _ _ h2)
theorem nov_base {H0 H1 H2 : Hp} (d : ∀ a, H1 a = none → H0 a = none) : Evl.Ex (nov H1 H2) (nov H0 H2) := fun a o h => by
  obtain ⟨h1, h2⟩ := nov_get h
  exact nov_of (d _ h1) h2
theorem ex_dom {H H' : Hp} (e : Evl.Ex H H') {a : Addr} (h : H' a = none) : H a = none := by
  cases q : H a with
  | none => rfl
  | some o => rw [e _ _ q] at h; cases h
theorem prAt_upd {H H' : Hp} {p : Addr} {o : HO} {ts : List Addr} {ps : Prs} (h : PrAt (nov H H') ts ps) (hp : ∀ xs, H' p ≠ some (.tup xs)) : PrAt (nov H (upd H' p o)) ts ps :=
  Paired.monoP (fun t q e => by
    obtain ⟨h1, h2⟩ := nov_get e
    have ne : t ≠ p := fun z => hp _ (z ▸ h2)
    exact nov_of h1 (by rw [upd_ne ne]; exact h2)) h
end WP

set_option Elab.async false
set_option linter.all false
set_option maxRecDepth 100000
set_option maxHeartbeats 400000
/-! the class Family: what the written part says, the promises -/
namespace WP
open PySem PySem.Spec PyProof.Rows L2
def btys : List String := ["list", "tuple", "NoneType", "bool", "int", "str"]
structure FamT (K : PySem.W.Frag) (C : Addr) : Prop where
  cl : Cls K C
  nP : NoAttr K C "parents"
  nD : NoAttr K C "declared"
  cls : PySem.W.findIn K (.ref C) "__class__" = some (some (.builtin "object.__class__"))
  get : PySem.W.specialIn K (.builtin "object.__class__") "__get__" = some (some (.builtin "getset_descriptor.__get__"))
  tk : PySem.W.takesIn K (.builtin "object.__class__") = some true
  mro : PySem.W.mroIn K C (.type "object") = some true
  one : PySem.W.kitOne K (.ref C) (.ref C) = some true
  bt : ∀ T ∈ btys, PySem.W.kitOne K (.type T) (.ref C) = some false ∧ AddT K C T
  ne : PySem.W.findIn K (.ref C) "__ne__" = some (some (.builtin "object.__ne__"))
def addB (K : PySem.W.Frag) (C : Addr) (T : String) : Bool := PySem.W.selfFirst K C && (He.eqO (PySem.W.findIn K (.ref C) (dunderR "add")) (some none) && ((PySem.W.findIn K (.type T) (PySem.dunder "add")).isSome && ((PySem.W.findIn K (.type T) (dunderR "add")).isSome && decide (PySem.W.subIn K (.type T) (.ref C) = some false))))
def famB (K : PySem.W.Frag) (C : Addr) : Bool := He.eqO (PySem.W.findIn K (.ref C) "__class__") (some (some (.builtin "object.__class__"))) && (He.eqO (PySem.W.specialIn K (.builtin "object.__class__") "__get__") (some (some (.builtin "getset_descriptor.__get__"))) && (decide (PySem.W.takesIn K (.builtin "object.__class__") = some true) &&
  (decide (PySem.W.mroIn K C (.type "object") = some true) && (decide (PySem.W.kitOne K (.ref C) (.ref C) = some true) && ((btys.all fun T => decide (PySem.W.kitOne K (.type T) (.ref C) = some false) && addB K C T) && He.eqO (PySem.W.findIn K (.ref C) "__ne__") (some (some (.builtin "object.__ne__"))))))))
theorem famT_of {K : PySem.W.Frag} {C : Addr} (cl : Cls K C) (nP : NoAttr K C "parents") (nD : NoAttr K C "declared") (h : famB K C = true) : FamT K C := by
  unfold famB at h
  obtain ⟨h1, h⟩ := Bool.and_eq_true_iff.mp h
  obtain ⟨h2, h⟩ := Bool.and_eq_true_iff.mp h
  obtain ⟨h3, h⟩ := Bool.and_eq_true_iff.mp h
  obtain ⟨h4, h⟩ := Bool.and_eq_true_iff.mp h
  obtain ⟨h5, h⟩ := Bool.and_eq_true_iff.mp h
  obtain ⟨h6, h7⟩ := Bool.and_eq_true_iff.mp h
  refine ⟨cl, nP, nD, He.eqO_ok h1, He.eqO_ok h2, of_decide_eq_true h3, of_decide_eq_true h4, of_decide_eq_true h5, fun T hT => ?_, He.eqO_ok h7⟩
  have := List.all_eq_true.mp h6 T hT
  obtain ⟨k1, k⟩ := Bool.and_eq_true_iff.mp this
  unfold addB at k
  obtain ⟨k2, k⟩ := Bool.and_eq_true_iff.mp k
  obtain ⟨k3, k⟩ := Bool.and_eq_true_iff.mp k
  obtain ⟨k4, k⟩ := Bool.and_eq_true_iff.mp k
  obtain ⟨k5, k6⟩ := Bool.and_eq_true_iff.mp k
  exact ⟨of_decide_eq_true k1, k2, He.eqO_ok k3, Option.isSome_iff_exists.mp k4, Option.isSome_iff_exists.mp k5, of_decide_eq_true k6⟩
section
variable {K : PySem.W.Frag} {C BF : Addr} {H : Hp}
theorem dp_ty {v : V} {d : PyData} (h : Dp K H v d) : ∃ T ∈ btys, TyX K H v (.type T) := by
  cases h with
  | non => exact ⟨"NoneType", by decide, TyX.base .non⟩
  | bl b => exact ⟨"bool", by decide, TyX.base (.bl b)⟩
  | int i => exact ⟨"int", by decide, TyX.base (.int i)⟩
  | str z => exact ⟨"str", by decide, TyX.base (.str z)⟩
  | lst s r => exact ⟨"list", by decide, ty_lst s⟩
  | tup s r => exact ⟨"tuple", by decide, ty_tup s⟩
theorem FamT.ty (T : FamT K C) {x dx : Addr} {fs : List (Str × V)} (h : H x = some (.ins C dx fs)) : TyX K H (.ref x) (.ref C) := TyX.base (.ins h T.cl T.cls T.get T.tk T.mro)
theorem FamT.nf (T : FamT K C) {t : String} (h : t ∈ btys) : PySem.W.notFirst K C (.type t) = true := by
  unfold PySem.W.notFirst
  rw [(T.bt t h).2.sub]
  simp
theorem FamT.nfo : PySem.W.notFirst K C (.ref C) = true := by
  unfold PySem.W.notFirst
  simp
/-! ### the promises -/
def shortD : PyData → Prop
  | .list xs => xs.length ≤ 1000
  | .tuple xs => xs.length ≤ 1000
  | _ => True
def spInit (K : PySem.W.Frag) (C BF : Addr) : Sp := fun vs H Q E => ∃ (x dx : Addr) (v : V) (d : PyData), vs = [.ref x, v] ∧ H x = some (.ins C dx []) ∧ Dp K H v d ∧ fit d = true ∧ shortD d ∧
  (∀ k : Int, famOf d = .inl k → ∀ (H' : Hp) (dd : Addr), Evl.Ex H H' → H' dd = none → E (.ref BF) (some dd) (upd H' dd (.xd [("at", .int k)]))) ∧
  (∀ ps, famOf d = .inr ps → ∀ (H' : Hp) (P T : Addr) (ts : List Addr), FamOk ps → ps.length ≤ 1000 → Evl.Ex H H' → H P = none → H T = none → H' P = some (.dK (famKvs ps)) → H' T = some (.tup (ts.map V.ref)) → PrAt (nov H H') ts ps →
    Q .non (upd H' x (.ins C dx [("parents", .ref P), ("declared", .ref T)])))
def spMk (K : PySem.W.Frag) (C BF : Addr) (v : V) (d : PyData) (H : Hp) (Q : Addr → Hp → Prop) (E : XK) : Prop := Dp K H v d ∧ fit d = true ∧ shortD d ∧
  (∀ k : Int, famOf d = .inl k → ∀ (H' : Hp) (dd : Addr), Evl.Ex H H' → H' dd = none → E (.ref BF) (some dd) (upd H' dd (.xd [("at", .int k)]))) ∧
  (∀ ps, famOf d = .inr ps → ∀ (y : Addr) (H' : Hp), Evl.Ex H H' → IsFam K C (nov H H') y ps → Q y H')
theorem mk_fam {v : V} {d : PyData} {Q : Addr → Hp → Prop} {E : XK} (h : spMk K C BF v d H Q E) : ∀ x dx, H x = none → H dx = none → dx ≠ x → spInit K C BF (.ref x :: ([v] ++ [])) (upd (upd H dx (.own x)) x (.ins C dx [])) (fun v H2 => v = .non ∧ Q x H2) E := by
  obtain ⟨hd, hf, hs, k1, k2⟩ := h
  intro x dx hx hdx hne
  have e1 : Evl.Ex H (upd (upd H dx (.own x)) x (.ins C dx [])) := (Evl.Ex.new hdx).trans (Evl.Ex.new (by rw [upd_ne hne.symm]; exact hx))
  refine ⟨x, dx, v, d, rfl, upd_same, Dp.mono e1 hd, hf, hs, fun k hk H' dd e hdd => k1 k hk H' dd (e1.trans e) hdd, fun ps hps H' P T ts ok few e hP hT h1 h2 h3 => ⟨rfl, ?_⟩⟩
  have neP : P ≠ x := fun z => by rw [z, upd_same] at hP; cases hP
  have neT : T ≠ x := fun z => by rw [z, upd_same] at hT; cases hT
  refine k2 ps hps x _ ?_ ⟨ok, few, dx, P, T, ts, ?_, ?_, ?_, ?_⟩
  · exact Evl.Ex.mut (e1.trans e) hx
  · exact nov_of hx upd_same
  · exact nov_of (ex_dom e1 hP) (by rw [upd_ne neP]; exact h1)
  · exact nov_of (ex_dom e1 hT) (by rw [upd_ne neT]; exact h2)
  · refine Paired.monoP (fun t q z => ?_) h3
    obtain ⟨z1, z2⟩ := nov_get z
    have net : t ≠ x := fun z => by rw [z, upd_same] at z1; cases z1
    exact nov_of (ex_dom e1 z1) (by rw [upd_ne net]; exact z2)
def spFits (K : PySem.W.Frag) : Sp := fun vs H Q _ => ∃ (D : Addr) (v : V) (d : PyData) (ps : Prs), vs = [.ref D, v] ∧ H D = some (.dK (famKvs ps)) ∧ Dp K H v d ∧ fit d = true ∧ ∀ H', Evl.Ex H H' → Q (.bl (fitsP (famKeys ps) d).isSome) H'
def spNames (K : PySem.W.Frag) (C : Addr) : Sp := fun vs H Q _ => ∃ (x : Addr) (ps : Prs), vs = [.ref x] ∧ IsFam K C H x ps ∧ ∀ l, H l = none → Q (.ref l) (upd H l (.lst ((famKeys ps).map V.str)))
def spParent (K : PySem.W.Frag) (C : Addr) : Sp := fun vs H Q _ => ∃ (x : Addr) (ps : Prs) (n : Str) (v : V), vs = [.ref x, .str n] ∧ IsFam K C H x ps ∧ valV (famKvs ps) (Sum.inr n) = some v ∧ Q v H
def inFam (ps : Prs) : PyData → Bool
  | .str z => decide (z ∈ famKeys ps)
  | _ => false
def spContains (K : PySem.W.Frag) (C : Addr) : Sp := fun vs H Q _ => ∃ (x : Addr) (ps : Prs) (v : V) (d : PyData), vs = [.ref x, v] ∧ IsFam K C H x ps ∧ Dp K H v d ∧ Q (.bl (inFam ps d)) H
def spLenF (K : PySem.W.Frag) (C : Addr) : Sp := fun vs H Q _ => ∃ (x : Addr) (ps : Prs), vs = [.ref x] ∧ IsFam K C H x ps ∧ Q (.int (4 + ps.length : Nat)) H
def spEqF (K : PySem.W.Frag) (C : Addr) : Sp := fun vs H Q _ => ∃ (x : Addr) (ps : Prs) (v : V), vs = [.ref x, v] ∧ IsFam K C H x ps ∧ ((∃ y qs, v = .ref y ∧ IsFam K C H y qs ∧ Q (.bl (decide (ps = qs))) H) ∨ ∃ d, Dp K H v d ∧ Q (.bl false) H)
def spAddF (K : PySem.W.Frag) (C BF : Addr) : Sp := fun vs H Q E => ∃ (x : Addr) (ps : Prs) (v : V) (d : PyData), vs = [.ref x, v] ∧ IsFam K C H x ps ∧ ps.length ≤ 900 ∧ Dp K H v d ∧ fit d = true ∧
  (fitsP (famKeys ps) d = none → ∀ (H' : Hp) (dd : Addr), Evl.Ex H H' → H' dd = none → E (.ref BF) (some dd) (upd H' dd (.xd [("at", .int (ps.length : Nat))]))) ∧
  (∀ q, fitsP (famKeys ps) d = some q → ∀ (y : Addr) (H' : Hp), Evl.Ex H H' → IsFam K C (nov H H') y (ps ++ [q]) → Q (.ref y) H')
def spPlain (K : PySem.W.Frag) (C : Addr) : Sp := fun vs H Q _ => vs = [] ∧ ∀ (y : Addr) (H' : Hp), Evl.Ex H H' → IsFam K C (nov H H') y [] → Q (.ref y) H'
theorem PrAt.snoc {H : Hp} {ts : List Addr} {ps : Prs} {t : Addr} {q : Str × Str} (h : PrAt H ts ps) (ht : H t = some (.tup [.str q.1, .str q.2])) : PrAt H (ts ++ [t]) (ps ++ [q]) := by
  unfold PrAt at *
  induction h with
  | nil => exact .cons ht .nil
  | cons a r ih => exact .cons a ih
/-! ### uses -/
variable {Q : VK} {E : XK}
theorem IsFam.ins {x : Addr} {ps : Prs} (h : IsFam K C H x ps) : ∃ dx P T, H x = some (.ins C dx [("parents", .ref P), ("declared", .ref T)]) := by
  obtain ⟨dx, P, T, ts, h1, _⟩ := h.ex
  exact ⟨dx, P, T, h1⟩
theorem u_len {x : Addr} {ps : Prs} (h : IsFam K C H x ps) (q : Q (.int (4 + ps.length : Nat)) H) : rLenO C (spLenF K C) E [.ref x] H Q := by
  obtain ⟨dx, P, T, h1⟩ := h.ins
  have := h.few
  exact ⟨x, dx, _, rfl, h1, x, ps, rfl, h, 4 + ps.length, rfl, by omega, q⟩
theorem u_in {x : Addr} {ps : Prs} {v : V} {d : PyData} (h : IsFam K C H x ps) (hd : Dp K H v d) (q : Q (.bl (inFam ps d)) H) : rInO C (spContains K C) E v (.ref x) H Q := by
  obtain ⟨dx, P, T, h1⟩ := h.ins
  exact ⟨x, dx, _, rfl, h1, x, ps, v, d, rfl, h, hd, _, rfl, q⟩
theorem u_eq {x y : Addr} {ps qs : Prs} {neg : Bool} (T : FamT K C) (h : IsFam K C H x ps) (h' : IsFam K C H y qs) (q : Q (.bl (if neg then !decide (ps = qs) else decide (ps = qs))) H) : rEqO K C (spEqF K C) E neg (.ref x) (.ref y) H Q := by
  obtain ⟨dx, P, _, h1⟩ := h.ins
  obtain ⟨dy, P', _, h1'⟩ := h'.ins
  exact ⟨x, dx, _, _, rfl, h1, T.ty h1', FamT.nfo, x, ps, _, rfl, h, .inl ⟨y, qs, rfl, h', _, rfl, q⟩⟩
theorem u_eqD {x : Addr} {ps : Prs} {v : V} {d : PyData} {neg : Bool} (T : FamT K C) (h : IsFam K C H x ps) (hd : Dp K H v d) (q : Q (.bl (if neg then !false else false)) H) : rEqO K C (spEqF K C) E neg (.ref x) v H Q := by
  obtain ⟨dx, P, _, h1⟩ := h.ins
  obtain ⟨t, ht, ty⟩ := dp_ty hd
  exact ⟨x, dx, _, _, rfl, h1, ty, T.nf ht, x, ps, _, rfl, h, .inr ⟨d, hd, _, rfl, q⟩⟩
theorem u_add {x : Addr} {ps : Prs} {v : V} {d : PyData} (T : FamT K C) (h : IsFam K C H x ps) (hl : ps.length ≤ 900) (hd : Dp K H v d) (hf : fit d = true)
    (q1 : fitsP (famKeys ps) d = none → ∀ (H' : Hp) (dd : Addr), Evl.Ex H H' → H' dd = none → E (.ref BF) (some dd) (upd H' dd (.xd [("at", .int (ps.length : Nat))])))
    (q2 : ∀ q, fitsP (famKeys ps) d = some q → ∀ (y : Addr) (H' : Hp), Evl.Ex H H' → IsFam K C (nov H H') y (ps ++ [q]) → Q (.ref y) H') : rAddO K C (spAddF K C BF) E (.ref x) v H Q := by
  obtain ⟨dx, P, _, h1⟩ := h.ins
  obtain ⟨t, ht, ty⟩ := dp_ty hd
  exact ⟨x, dx, _, t, rfl, h1, ty, (T.bt t ht).2, x, ps, v, d, rfl, h, hl, hd, hf, q1, fun q hq y H' e hy => ⟨⟨y, rfl⟩, q2 q hq y H' e hy⟩⟩
/-- o.m(..) of a family -/
theorem u_meth {x : Addr} {ps : Prs} {m : Str} (h : IsFam K C H x ps) (hm : m ≠ "parents" ∧ m ≠ "declared") {R : Prop} (q : R) : ∃ a dx fs, V.ref x = .ref a ∧ H a = some (.ins C dx fs) ∧ fs.lookup m = none ∧ R := by
  obtain ⟨dx, P, T, h1⟩ := h.ins
  refine ⟨x, dx, _, rfl, h1, ?_, q⟩
  rw [List.lookup_cons, beq_false_of_ne hm.1, List.lookup_cons, beq_false_of_ne hm.2]
  rfl
/-- x.declared, x.parents -/
theorem u_dec {QV : V → Prop} (T : FamT K C) {x : Addr} {ps : Prs} (h : IsFam K C H x ps) (q : ∀ (D : Addr) (ts : List Addr), H D = some (.tup (ts.map V.ref)) → PrAt H ts ps → QV (.ref D)) : ∃ a' C' dx' fs' v', V.ref x = .ref a' ∧ H a' = some (.ins C' dx' fs') ∧ Cls K C' ∧ NoAttr K C' "declared" ∧ fs'.lookup ("declared" : Str) = some v' ∧ QV v' := by
  obtain ⟨dx, P, D, ts, h1, h2, h3, h4⟩ := h.ex
  exact ⟨x, C, dx, _, _, rfl, h1, T.cl, T.nD, by rfl, q D ts h3 h4⟩
theorem u_par {QV : V → Prop} (T : FamT K C) {x : Addr} {ps : Prs} (h : IsFam K C H x ps) (q : ∀ D : Addr, H D = some (.dK (famKvs ps)) → QV (.ref D)) : ∃ a' C' dx' fs' v', V.ref x = .ref a' ∧ H a' = some (.ins C' dx' fs') ∧ Cls K C' ∧ NoAttr K C' "parents" ∧ fs'.lookup ("parents" : Str) = some v' ∧ QV v' := by
  obtain ⟨dx, P, D, ts, h1, h2, h3, h4⟩ := h.ex
  exact ⟨x, C, dx, _, _, rfl, h1, T.cl, T.nP, by rfl, q P h2⟩
theorem dec_dp {D : Addr} {ts : List Addr} {ps : Prs} (h : H D = some (.tup (ts.map V.ref))) (hp : PrAt H ts ps) : Dp K H (.ref D) (decD ps) := .tup (SqT.of h) hp.dp
theorem r_isiLT_A {Q : VK} {p tp : Addr} {xs : List V} (ht : H tp = some (.tup [.ty "list", .ty "tuple"])) (h : SqA K H p xs) (q : Q (.bl true) H) : rIsiT K [(.ref p), .ref tp] H Q := by
  rcases h with h | h
  · exact r_isiLT_lst ht h q
  · exact r_isiLT_tup ht h q
/-- what may be handed to Family -/
theorem seq_or {v : V} {d : PyData} (hd : Dp K H v d) (hf : fit d = true) (hs : shortD d) : (famOf d = .inl (-1) ∧ ∀ (tp : Addr) (H' : Hp), H' tp = some (.tup [.ty "list", .ty "tuple"]) → ∀ Q : VK, Q (.bl false) H' → rIsiT K [v, .ref tp] H' Q) ∨
    ∃ a xs ds, v = .ref a ∧ SqA K H a xs ∧ DpAll K H xs ds ∧ fitAll ds = true ∧ ds.length ≤ 1000 ∧ (∀ k : Nat, famD [] ds = .inl k → famOf d = .inl (k : Int)) ∧ ∀ ps, famD [] ds = .inr ps → famOf d = .inr ps := by
  cases hd with
  | non => exact .inl ⟨rfl, fun tp H' h Q q => r_isiLT_non h q⟩
  | bl b => exact .inl ⟨rfl, fun tp H' h Q q => r_isiLT_bl h q⟩
  | int i => exact .inl ⟨rfl, fun tp H' h Q q => r_isiLT_int h q⟩
  | str z => exact .inl ⟨rfl, fun tp H' h Q q => r_isiLT_str h q⟩
  | @lst a xs ds s r => exact .inr ⟨a, xs, ds, rfl, .inl s, r, (fit_list hf).2, hs, fun k h => by simp only [famOf, h], fun k h => by simp only [famOf, h]⟩
  | @tup a xs ds s r => exact .inr ⟨a, xs, ds, rfl, .inr s, r, (fit_tuple hf).2, hs, fun k h => by simp only [famOf, h], fun k h => by simp only [famOf, h]⟩
theorem fits_inv {v : V} {d : PyData} {ns : List Str} {q : Str × Str} (hd : Dp K H v d) (h : fitsP ns d = some q) : ∃ p v2, v = .ref p ∧ SqT K H p [.str q.1, v2] ∧ ((v2 = .non ∧ q.2 = "Error") ∨ v2 = .str q.2) := by
  unfold fitsP at h
  split at h
  · rename_i n
    split at h
    · cases h
      cases hd with
      | tup s r =>
        cases r with
        | cons r1 r =>
        cases r with
        | cons r2 r =>
        cases r
        cases r1
        cases r2
        exact ⟨_, _, rfl, s, .inl ⟨rfl, rfl⟩⟩
    · cases h
  · rename_i n p
    split at h
    · cases h
      cases hd with
      | tup s r =>
        cases r with
        | cons r1 r =>
        cases r with
        | cons r2 r =>
        cases r
        cases r1
        cases r2
        exact ⟨_, _, rfl, s, .inr rfl⟩
    · cases h
  · cases h
end
end WP

set_option Elab.async false
set_option linter.all false
set_option maxRecDepth 100000
set_option maxHeartbeats 400000
/-! families: what is under what; extending; the law's raw pairs -/
namespace WP
open PySem PySem.Spec PyProof.Rows L2
theorem valV_memK {kvs : List (Key × V)} {k : Key} {v : V} (h : valV kvs k = some v) : (k, v) ∈ kvs := by
  induction kvs with
  | nil => rw [valV_nil] at h; cases h
  | cons p r ih =>
    by_cases e : p.1 = k
    · rw [valV_pos e] at h
      cases h
      rw [← e]
      exact List.mem_cons_self ..
    · rw [valV_neg e] at h
      exact List.mem_cons_of_mem _ (ih h)
theorem fam_vals {ps : Prs} {n : Str} {v : V} (h : valV (famKvs ps) (Sum.inr n) = some v) : (v = .non ∧ n = "Error") ∨ ∃ m, v = .str m ∧ ((n, m) ∈ [(("Failed" : Str), ("Error" : Str)), ("Misuse", "Error"), ("Beyond", "Misuse")] ∨ (n, m) ∈ ps) := by
  have := valV_memK h
  unfold famKvs at this
  rcases List.mem_append.mp this with h | h
  · unfold kvs4 at h
    simp only [List.mem_cons, List.not_mem_nil, or_false] at h
    rcases h with h | h | h | h <;> injection h with h1 h2 <;> injection h1 with h1 <;> subst h1 h2
    · exact .inl ⟨rfl, rfl⟩
    · exact .inr ⟨_, rfl, .inl (by simp)⟩
    · exact .inr ⟨_, rfl, .inl (by simp)⟩
    · exact .inr ⟨_, rfl, .inl (by simp)⟩
  · obtain ⟨q, hq, e⟩ := List.mem_map.mp h
    injection e with e1 e2
    injection e1 with e1
    subst e1 e2
    exact .inr ⟨q.2, rfl, .inr hq⟩
/-- the class that a class is directly under; unknown ones are under Error -/
def parO (ps : Prs) (n : Str) : Option Str := match valV (famKvs ps) (Sum.inr n) with
  | some (.str m) => some m
  | some _ => none
  | none => some "Error"
def optV : Option Str → V
  | some m => .str m
  | none => .non
theorem parO_get (ps : Prs) (n : Str) : (valV (famKvs ps) (Sum.inr n)).getD (.str "Error") = optV (parO ps n) := by
  unfold parO
  cases h : valV (famKvs ps) (Sum.inr n) with
  | none => rfl
  | some v =>
    rcases fam_vals h with ⟨rfl, _⟩ | ⟨m, rfl, _⟩
    · rfl
    · rfl
def rk (ps : Prs) (n : Str) : Nat := (famKeys ps).idxOf n
theorem rk_lt {ps : Prs} (ok : FamOk ps) {n m : Str} (h : parO ps n = some m) : rk ps m < rk ps n := by
  unfold parO at h
  cases hv : valV (famKvs ps) (Sum.inr n) with
  | none =>
    rw [hv] at h
    cases h
    have hn : n ∉ famKeys ps := fun z => by
      obtain ⟨v, e⟩ := fam_getv z
      rw [hv] at e
      cases e
    have h1 : rk ps n = (famKeys ps).length := List.idxOf_eq_length hn
    have h2 : rk ps ("Error" : Str) = 0 := by
      unfold rk famKeys names4
      rw [List.cons_append, List.idxOf_cons_self]
    rw [h1, h2, famKeys_length]
    omega
  | some v =>
    rw [hv] at h
    rcases fam_vals hv with ⟨rfl, _⟩ | ⟨m', rfl, hm⟩
    · cases h
    · have e : m' = m := Option.some.inj h
      subst e
      rcases hm with hm | hm
      · have r4 : ∀ z ∈ names4, rk ps z = names4.idxOf z := fun z hz => by
          unfold rk famKeys
          rw [List.idxOf_append, if_pos hz]
        have hd : ∀ q ∈ [(("Failed" : Str), ("Error" : Str)), ("Misuse", "Error"), ("Beyond", "Misuse")], q.1 ∈ names4 ∧ q.2 ∈ names4 ∧ names4.idxOf q.2 < names4.idxOf q.1 := by decide +kernel
        obtain ⟨a, b, c⟩ := hd _ hm
        rw [r4 _ a, r4 _ b]
        exact c
      · obtain ⟨i, hi, e⟩ := List.getElem_of_mem hm
        have hi2 : ps[i]? = some (n, m') := by rw [List.getElem?_eq_getElem hi, e]
        have h1 : m' ∈ famKeys (ps.take i) := ok.ord i _ hi2
        have split : famKeys ps = famKeys (ps.take i) ++ (ps.drop i).map (·.1) := by
          unfold famKeys
          rw [List.append_assoc, ← List.map_append, List.take_append_drop]
        have hn : n ∈ (ps.drop i).map (·.1) := by
          rw [List.drop_eq_getElem_cons hi, e]
          exact List.mem_cons_self ..
        have hn2 : n ∉ famKeys (ps.take i) := fun z => by
          have := ok.nd
          rw [split, List.nodup_append] at this
          exact this.2.2 n z n hn rfl
        unfold rk
        rw [split, List.idxOf_append, if_pos h1, List.idxOf_append, if_neg hn2]
        have := List.idxOf_lt_length_of_mem h1
        omega
def chainF (ps : Prs) : Nat → Str → List Str
  | 0, _ => []
  | k + 1, n => n :: match parO ps n with
    | some m => chainF ps k m
    | none => []
def chain (ps : Prs) (n : Str) : List Str := chainF ps (rk ps n + 1) n
theorem chainF_ge {ps : Prs} (ok : FamOk ps) : ∀ (k : Nat) (n : Str), rk ps n < k → chainF ps k n = chain ps n := by
  intro k
  induction k with
  | zero => intro n h; omega
  | succ k ih =>
    intro n h
    unfold chain
    show (n :: match parO ps n with | some m => chainF ps k m | none => []) = (n :: match parO ps n with | some m => chainF ps (rk ps n) m | none => [])
    cases e : parO ps n with
    | none => rfl
    | some m =>
      have hm := rk_lt ok e
      show n :: chainF ps k m = n :: chainF ps (rk ps n) m
      rw [ih m (by omega)]
      congr 1
      unfold chain
      have aux : ∀ (j k' : Nat) (z : Str), rk ps z < j → rk ps z < k' → chainF ps j z = chainF ps k' z := by
        intro j
        induction j with
        | zero => intro k' z h; omega
        | succ j ihj =>
          intro k' z h1 h2
          cases k' with
          | zero => omega
          | succ k' =>
            show (z :: match parO ps z with | some m => chainF ps j m | none => []) = (z :: match parO ps z with | some m => chainF ps k' m | none => [])
            cases e2 : parO ps z with
            | none => rfl
            | some m2 =>
              have := rk_lt ok e2
              show z :: chainF ps j m2 = z :: chainF ps k' m2
              rw [ihj k' m2 (by omega) (by omega)]
      exact aux _ _ m (by omega) (by omega)
theorem chain_eq {ps : Prs} (ok : FamOk ps) (n : Str) : chain ps n = n :: match parO ps n with
    | some m => chain ps m
    | none => [] := by
  show (n :: match parO ps n with | some m => chainF ps (rk ps n) m | none => []) = _
  cases e : parO ps n with
  | none => rfl
  | some m =>
    show n :: chainF ps (rk ps n) m = n :: chain ps m
    rw [chainF_ge ok _ _ (rk_lt ok e)]
/-! ### a family over its own pairs; one more -/
theorem fam_self : ∀ {qs acc : Prs}, FamOk (acc ++ qs) → famD acc (qs.map prD) = .inr (acc ++ qs)
  | [], acc, _ => by rw [List.append_nil]; rfl
  | q :: r, acc, ok => by
    rw [List.map_cons, famD_cons]
    have h1 : ClsN q.1 := ok.cl _ (by unfold famKeys; simp)
    have hk : famKeys (acc ++ q :: r) = famKeys acc ++ q.1 :: r.map (·.1) := by unfold famKeys; simp
    have h2 : q.1 ∉ famKeys acc := fun z => by
      have := ok.nd
      rw [hk, List.nodup_append] at this
      exact this.2.2 _ z _ (List.mem_cons_self ..) rfl
    have h3 : q.2 ∈ famKeys acc := by
      have := ok.ord acc.length q (by rw [List.getElem?_append_right (Nat.le_refl _), Nat.sub_self]; rfl)
      rw [List.take_append_of_le_length (Nat.le_refl _), List.take_length] at this
      exact this
    rw [prD_fits h1 h2 h3]
    show famD (acc ++ [q]) (r.map prD) = _
    have e : acc ++ q :: r = (acc ++ [q]) ++ r := by simp
    rw [fam_self (by rw [← e]; exact ok), ← e]
theorem fam_more {ps : Prs} (ok : FamOk ps) (d : PyData) : famD [] (ps.map prD ++ [d]) = match fitsP (famKeys ps) d with
    | some q => .inr (ps ++ [q])
    | none => .inl ps.length := by
  have h : famD [] (ps.map prD) = .inr ps := fam_self (acc := []) ok
  rw [famD_app h, famD_cons]
  cases fitsP (famKeys ps) d <;> rfl
theorem famOf_lL {xs : List PyData} {k : Nat} (h : famD [] xs = .inl k) : famOf (.list xs) = .inl (k : Int) := by simp only [famOf, h]
theorem famOf_lR {xs : List PyData} {ps : Prs} (h : famD [] xs = .inr ps) : famOf (.list xs) = .inr ps := by simp only [famOf, h]
theorem famOf_tL {xs : List PyData} {k : Nat} (h : famD [] xs = .inl k) : famOf (.tuple xs) = .inl (k : Int) := by simp only [famOf, h]
theorem famOf_tR {xs : List PyData} {ps : Prs} (h : famD [] xs = .inr ps) : famOf (.tuple xs) = .inr ps := by simp only [famOf, h]
theorem fnokQ_of {P : Program} {w : World} {K : PySem.W.Frag} {mg : Str → Option Value} {base : Heap} {m qual : Str} {st : Stmt} {f : Addr} {fd : FuncData} {N ps : List Str} {k : Nat} {sp : Sp} (F : FunD K m qual (defArgs st) (defBody st) (defScope st) [] [] f fd) (S : FnScope N ps (defScope st)) (len : ∀ vs H Q E, sp vs H Q E → vs.length = ps.length)
    (hbody : ∀ (cdv : Value) (A : Around) (outer : List Env) (s : Shared) (H : Hp) (vs : List V) (Q : VK) (E : XK), Room k (A.deeper (envOfC qual (defScope st) s.heap.objs.size f cdv)) → sp vs H Q E →
      ∃ t, PSs (cxOf L2.CX0 P w K mg base N qual (defScope st) f cdv A outer s H E).nox (defBody st) t ∧ t { nx := fun _ H' => Q .non H', rt := Q } (start N vs) H) : FnOk P w K mg base L2.CX0 (k + 1) f fd ps sp := by
  refine F.ok S len fun cdv A outer s H vs Q E hr hsp => ?_
  obtain ⟨t, h, q⟩ := hbody cdv A outer s H vs Q E hr hsp
  exact ⟨t, h.nox, q⟩
/-! ### the law's raw pairs: the parent may be None -/
abbrev Raw := List (Str × Option Str)
def rawD (q : Str × Option Str) : PyData := .tuple [.str q.1, match q.2 with
  | some m => .str m
  | none => .none]
def rawN (q : Str × Option Str) : Str × Str := (q.1, q.2.getD "Error")
theorem rawD_fits {ns : List Str} {q : Str × Option Str} (h1 : ClsN q.1) (h2 : q.1 ∉ ns) (h3 : ∀ m, q.2 = some m → m ∈ ns) : fitsP ns (rawD q) = some (rawN q) := by
  obtain ⟨n, o⟩ := q
  cases o with
  | none =>
    show (if isClsS n && !decide (n ∈ ns) then some (n, ("Error" : Str)) else none) = _
    rw [isCls_iff.mpr h1, decide_eq_false h2]
    rfl
  | some m =>
    show (if isClsS n && (!decide (n ∈ ns) && decide (m ∈ ns)) then some (n, m) else none) = _
    rw [isCls_iff.mpr h1, decide_eq_false h2, decide_eq_true (h3 m rfl)]
    rfl
structure RawOk (rs : Raw) : Prop where
  fam : famD [] (rs.map rawD) = .inr (rs.map rawN)
theorem RawOk.ok {rs : Raw} (h : RawOk rs) : FamOk (rs.map rawN) := (famD_ok fam_nil h.fam).1
theorem raw_nil : RawOk [] := ⟨rfl⟩
theorem RawOk.snoc {rs : Raw} {q : Str × Option Str} (h : RawOk rs) (h1 : ClsN q.1) (h2 : q.1 ∉ famKeys (rs.map rawN)) (h3 : ∀ m, q.2 = some m → m ∈ famKeys (rs.map rawN)) : RawOk (rs ++ [q]) := by
  refine ⟨?_⟩
  rw [List.map_append, List.map_append, famD_app h.fam]
  show famD (rs.map rawN) [rawD q] = _
  rw [famD_cons, rawD_fits h1 h2 h3]
  rfl
theorem raw_keys (rs : Raw) : famKeys (rs.map rawN) = names4 ++ rs.map (·.1) := by
  unfold famKeys
  rw [List.map_map]
  rfl
/-- the prefix of such a list -/
theorem famD_take : ∀ {xs : List PyData} {acc ps : Prs}, famD acc xs = .inr ps → ∀ i, i ≤ xs.length → famD acc (xs.take i) = .inr (ps.take (acc.length + i))
  | [], acc, ps, e, i, hi => by
    have e : (Sum.inr acc : Nat ⊕ Prs) = .inr ps := e
    cases e
    have : i = 0 := by simpa using hi
    subst this
    rw [List.take_nil, Nat.add_zero, List.take_length]
    rfl
  | d :: r, acc, ps, e, i, hi => by
    cases i with
    | zero =>
      rw [List.take_zero, Nat.add_zero]
      have aux : ∀ {xs : List PyData} {acc ps : Prs}, famD acc xs = .inr ps → ps.take acc.length = acc := by
        intro xs
        induction xs with
        | nil =>
          intro acc ps e
          have e : (Sum.inr acc : Nat ⊕ Prs) = .inr ps := e
          cases e
          exact List.take_length
        | cons d r ih =>
          intro acc ps e
          rw [famD_cons] at e
          cases hq : fitsP (famKeys acc) d with
          | none => rw [hq] at e; cases e
          | some q =>
            rw [hq] at e
            have := ih e
            have h2 : (ps.take (acc ++ [q]).length).take acc.length = acc := by
              rw [this, List.take_append_of_le_length (Nat.le_refl _), List.take_length]
            rw [List.take_take] at h2
            have h3 : min acc.length (acc ++ [q]).length = acc.length := by rw [List.length_append]; omega
            rw [h3] at h2
            exact h2
      rw [aux e]
      rfl
    | succ i =>
      rw [famD_cons] at e
      rw [List.take_succ_cons, famD_cons]
      cases hq : fitsP (famKeys acc) d with
      | none => rw [hq] at e; cases e
      | some q =>
        rw [hq] at e
        have := famD_take e i (by simpa using hi)
        rw [List.length_append, List.length_singleton] at this
        rw [Nat.add_assoc, Nat.add_comm 1 i] at this
        exact this
/-! ### the law's pairs in the heap -/
def RwAt (H : Hp) (ts : List Addr) (rs : Raw) : Prop := Paired (fun t q => H t = some (.tup [.str q.1, optV q.2])) ts rs
theorem RwAt.mono {H H' : Hp} (e : Evl.Ex H H') {ts : List Addr} {rs : Raw} (h : RwAt H ts rs) : RwAt H' ts rs := Paired.monoP (fun _ _ q => e _ _ q) h
theorem RwAt.length {H : Hp} {ts : List Addr} {rs : Raw} (h : RwAt H ts rs) : ts.length = rs.length := by
  unfold RwAt at h
  induction h with
  | nil => rfl
  | cons _ _ ih => rw [List.length_cons, List.length_cons, ih]
theorem RwAt.snoc {H : Hp} {ts : List Addr} {rs : Raw} {t : Addr} {q : Str × Option Str} (h : RwAt H ts rs) (ht : H t = some (.tup [.str q.1, optV q.2])) : RwAt H (ts ++ [t]) (rs ++ [q]) := by
  unfold RwAt at *
  induction h with
  | nil => exact .cons ht .nil
  | cons a r ih => exact .cons a ih
theorem rawD_dp {K : PySem.W.Frag} {H : Hp} {t : Addr} {q : Str × Option Str} (h : H t = some (.tup [.str q.1, optV q.2])) : Dp K H (.ref t) (rawD q) := by
  obtain ⟨n, o⟩ := q
  cases o with
  | none => exact .tup (SqT.of h) (.cons (.str _) (.cons .non .nil))
  | some m => exact .tup (SqT.of h) (.cons (.str _) (.cons (.str _) .nil))
theorem RwAt.dp {K : PySem.W.Frag} {H : Hp} {ts : List Addr} {rs : Raw} (h : RwAt H ts rs) : DpAll K H (ts.map V.ref) (rs.map rawD) := by
  unfold RwAt at h
  induction h with
  | nil => exact .nil
  | cons a r ih => exact .cons (rawD_dp a) ih
theorem RwAt.get {H : Hp} {ts : List Addr} {rs : Raw} (h : RwAt H ts rs) {i : Nat} {t : Addr} (ht : ts[i]? = some t) : ∃ q, rs[i]? = some q ∧ H t = some (.tup [.str q.1, optV q.2]) := by
  unfold RwAt at h
  induction h generalizing i with
  | nil => simp at ht
  | @cons a b xs ys p r ih =>
    cases i with
    | zero =>
      have : a = t := by simpa using ht
      subst this
      exact ⟨b, rfl, p⟩
    | succ i =>
      obtain ⟨q, h1, h2⟩ := ih (by simpa using ht)
      exact ⟨q, by simpa using h1, h2⟩
theorem RwAt.take {H : Hp} {ts : List Addr} {rs : Raw} (h : RwAt H ts rs) (i : Nat) : RwAt H (ts.take i) (rs.take i) := by
  unfold RwAt at *
  induction h generalizing i with
  | nil => simp only [List.take_nil]; exact .nil
  | cons a r ih =>
    cases i with
    | zero => exact .nil
    | succ i => exact .cons a (ih i)
theorem raw_cls {rs : Raw} (h : RawOk rs) : ∀ q ∈ rs, ClsN q.1 ∧ ∀ m, q.2 = some m → ClsN m := fun q hq => by
  have h1 := h.ok
  have h2 := h1.both (rawN q) (List.mem_map_of_mem hq)
  refine ⟨h2.1, fun m hm => ?_⟩
  have := h2.2
  unfold rawN at this
  rw [hm] at this
  exact this
theorem raw_fit {rs : Raw} (h : RawOk rs) : fitAll (rs.map rawD) = true := by
  refine fitAll_of fun d hd => ?_
  obtain ⟨q, hq, rfl⟩ := List.mem_map.mp hd
  obtain ⟨h1, h2⟩ := raw_cls h q hq
  obtain ⟨n, o⟩ := q
  have h1 : ClsN n := h1
  have l1 := h1.len
  cases o with
  | none =>
    unfold rawD
    rw [fit, fitAll, fitAll, fitAll, fit, fit, cls_ok h1, decide_eq_true (by omega : n.length ≤ 100000)]
    rfl
  | some m =>
    have h3 := h2 m rfl
    have l2 := h3.len
    unfold rawD
    rw [fit, fitAll, fitAll, fitAll, fit, fit, cls_ok h1, cls_ok h3, decide_eq_true (by omega : n.length ≤ 100000), decide_eq_true (by omega : m.length ≤ 100000)]
    rfl
/-! ### a text in a list of texts -/
theorem flat_strs (l : List Str) : (l.map V.str).all flatV = true := by
  rw [List.all_eq_true]
  intro v hv
  obtain ⟨z, _, rfl⟩ := List.mem_map.mp hv
  rfl
theorem inV_strs (z : Str) : ∀ l : List Str, inV (.str z) (l.map V.str) = decide (z ∈ l)
  | [] => by simp [inV]
  | k :: r => by
    have h := inV_strs z r
    unfold inV at h ⊢
    rw [List.map_cons, List.any_cons, h]
    have e : eqV (.str k) (.str z) = decide (z = k) := by
      unfold eqV
      by_cases e : k = z
      · subst e; simp
      · have e' : ¬ z = k := fun q => e q.symm
        simp [e, e']
    rw [e]
    by_cases h1 : z = k <;> by_cases h2 : z ∈ r <;> simp [h1, h2]
section
variable {K : PySem.W.Frag} {H : Hp} {Q : VK} {p : Addr} {z : Str} {l : List Str}
theorem r_notInStrs (h : SqA K H p (l.map V.str)) (q : Q (.bl (!decide (z ∈ l))) H) : rNotInA K (.str z) (.ref p) H Q := by
  refine .inr ⟨p, _, rfl, h, rfl, flat_strs l, ?_⟩
  rw [inV_strs]
  exact q
theorem r_inStrs (h : SqA K H p (l.map V.str)) (q : Q (.bl (decide (z ∈ l))) H) : rInA K (.str z) (.ref p) H Q := by
  refine .inr ⟨p, _, rfl, h, rfl, flat_strs l, ?_⟩
  rw [inV_strs]
  exact q
theorem strs_at {l : List Str} {j : Nat} (h : j < l.length) : ∃ z ∈ l, (l.map V.str)[j]? = some (V.str z) := ⟨l[j], List.getElem_mem h, by rw [List.getElem?_map, List.getElem?_eq_getElem h]; rfl⟩
end
end WP

set_option Elab.async false
set_option linter.all false
set_option maxRecDepth 100000
set_option maxHeartbeats 400000
/-! families: prefixes, entries that cannot stand, families of the law's pairs -/
namespace WP
open PySem PySem.Spec PyProof.Rows L2
theorem fits_known {n : Str} {ns : List Str} {d : PyData} (h : n ∈ ns) : fitsP ns (.tuple [.str n, d]) = none := by
  cases d <;> simp [fitsP, h]
theorem fits_nocls {n : Str} {ns : List Str} {d : PyData} (h : isClsS n = false) : fitsP ns (.tuple [.str n, d]) = none := by
  cases d <;> simp [fitsP, h]
theorem fits_nopar {n p : Str} {ns : List Str} (h : p ∉ ns) : fitsP ns (.tuple [.str n, .str p]) = none := by
  simp [fitsP, h]
theorem RawOk.take {rs : Raw} (h : RawOk rs) (i : Nat) (hi : i ≤ rs.length) : RawOk (rs.take i) := by
  refine ⟨?_⟩
  have := famD_take h.fam i (by rw [List.length_map]; exact hi)
  rw [List.map_take, List.map_take, this, List.length_nil, Nat.zero_add]
theorem raw_step {rs : Raw} (ok : RawOk rs) {i : Nat} {q : Str × Option Str} (h : rs[i]? = some q) : fitsP (famKeys ((rs.map rawN).take i)) (rawD q) = some (rawN q) ∧ (rs.map rawN).take i ++ [rawN q] = (rs.map rawN).take (i + 1) := by
  have hi : i < rs.length := (List.getElem?_eq_some_iff.mp h).1
  have e2 : (rs.map rawN).take i ++ [rawN q] = (rs.map rawN).take (i + 1) := by
    rw [List.take_succ, List.getElem?_map, h]
    rfl
  refine ⟨?_, e2⟩
  have h1 := famD_take ok.fam i (by rw [List.length_map]; omega)
  have h2 := famD_take ok.fam (i + 1) (by rw [List.length_map]; omega)
  rw [List.length_nil, Nat.zero_add] at h1 h2
  have e3 : (rs.map rawD).take (i + 1) = (rs.map rawD).take i ++ [rawD q] := by
    rw [List.take_succ, List.getElem?_map, h]
    rfl
  rw [e3, famD_app h1, famD_cons] at h2
  cases hq : fitsP (famKeys ((rs.map rawN).take i)) (rawD q) with
  | none => rw [hq] at h2; cases h2
  | some r =>
    rw [hq] at h2
    have h2 : (Sum.inr ((rs.map rawN).take i ++ [r]) : Nat ⊕ Prs) = .inr ((rs.map rawN).take (i + 1)) := h2
    injection h2 with h2
    rw [← e2] at h2
    have := List.append_cancel_left h2
    rw [List.singleton_inj.mp this]
theorem raw_again {rs : Raw} (ok : RawOk rs) {i : Nat} {q : Str × Option Str} (h : rs[i]? = some q) : fitsP (famKeys ((rs.map rawN).take (i + 1))) (rawD q) = none := by
  rw [← (raw_step ok h).2, famKeys_snoc]
  exact fits_known (List.mem_append_right _ (List.mem_singleton.mpr rfl))
theorem raw_ne {rs : Raw} {i : Nat} (hi : i < rs.length) : ¬ (rs.map rawN).take (i + 1) = (rs.map rawN).take i := fun e => by
  have := congrArg List.length e
  rw [List.length_take, List.length_take, List.length_map] at this
  omega
theorem cutV_take {xs : List V} (i : Nat) : cutV xs none (some (i : Int)) = xs.take i := by
  unfold cutV
  rw [HT.sIx_none]
  have e : HT.sIx xs.length xs.length (some (i : Int)) = min i xs.length := HT.sIx_nat xs.length xs.length i
  rw [e, List.drop_zero, Nat.sub_zero]
  by_cases h : i ≤ xs.length
  · rw [Nat.min_eq_left h]
  · rw [Nat.min_eq_right (by omega), List.take_length, List.take_of_length_le (by omega)]
section
variable {K : PySem.W.Frag} {C BF : Addr} {H : Hp} {Q : Addr → Hp → Prop} {E : XK}
theorem mk_raw {p : Addr} {ts : List Addr} {rs : Raw} (hp : SqL K H p (ts.map V.ref)) (hR : RwAt H ts rs) (ok : RawOk rs) (few : rs.length ≤ 1000) (q : ∀ (y : Addr) (H' : Hp), Evl.Ex H H' → IsFam K C (nov H H') y (rs.map rawN) → Q y H') :
    spMk K C BF (.ref p) (.list (rs.map rawD)) H Q E := by
  refine ⟨.lst hp hR.dp, ?_, by show (rs.map rawD).length ≤ 1000; rw [List.length_map]; exact few, fun k hk => ?_, fun ps hps y H' e hy => ?_⟩
  · rw [fit, List.length_map, decide_eq_true (by omega), raw_fit ok]
    rfl
  · rw [famOf_lR ok.fam] at hk
    cases hk
  · rw [famOf_lR ok.fam] at hps
    injection hps with hps
    subst hps
    exact q y H' e hy
theorem mk_rawT {p : Addr} {ts : List Addr} {rs : Raw} (hp : SqT K H p (ts.map V.ref)) (hR : RwAt H ts rs) (ok : RawOk rs) (few : rs.length ≤ 1000) (q : ∀ (y : Addr) (H' : Hp), Evl.Ex H H' → IsFam K C (nov H H') y (rs.map rawN) → Q y H') :
    spMk K C BF (.ref p) (.tuple (rs.map rawD)) H Q E := by
  refine ⟨.tup hp hR.dp, ?_, by show (rs.map rawD).length ≤ 1000; rw [List.length_map]; exact few, fun k hk => ?_, fun ps hps y H' e hy => ?_⟩
  · rw [fit, List.length_map, decide_eq_true (by omega), raw_fit ok]
    rfl
  · rw [famOf_tR ok.fam] at hk
    cases hk
  · rw [famOf_tR ok.fam] at hps
    injection hps with hps
    subst hps
    exact q y H' e hy
/-- an entry that cannot stand behind these pairs -/
def Bad (K : PySem.W.Frag) (ps : Prs) (H : Hp) (v : V) : Prop := ∃ d, Dp K H v d ∧ fit d = true ∧ fitsP (famKeys ps) d = none
theorem Bad.mono {ps : Prs} {H' : Hp} {v : V} (e : Evl.Ex H H') (h : Bad K ps H v) : Bad K ps H' v := by
  obtain ⟨d, h1, h2, h3⟩ := h
  exact ⟨d, Dp.mono e h1, h2, h3⟩
theorem fit_pair {d e : PyData} (h1 : fit d = true) (h2 : fit e = true) : fit (.tuple [d, e]) = true := by
  rw [fit, fitAll, fitAll, fitAll, h1, h2]
  rfl
theorem fit_s {z : Str} (h1 : z.length ≤ 100000) (h2 : PyData.strOk z = true) : fit (.str z) = true := by
  rw [fit, h2, Bool.and_true]
  exact decide_eq_true h1
theorem fit_n : fit .none = true := by rw [fit]
theorem fit_b {b : Bool} : fit (.bool b) = true := by rw [fit]
theorem len_app (x y : Str) : (x ++ y).length = x.length + y.length := by
  rw [← tl_length, tl_app, List.length_append, tl_length, tl_length]
theorem ok_app {x y : Str} (h1 : ClsN x) (h2 : ∀ c ∈ tl y, c < 1114112) : PyData.strOk (x ++ y) = true := by
  refine str_ok fun c hc => ?_
  have hc : c ∈ tl (x ++ y) := hc
  rw [tl_app] at hc
  rcases List.mem_append.mp hc with hc | hc
  · obtain ⟨a, r, e, q1, q2, q3⟩ := h1
    have e : tl x = a :: r := e
    rw [e] at hc
    rcases List.mem_cons.mp hc with rfl | hc
    · omega
    · rcases q2 c hc with h | h <;> omega
  · exact h2 c hc
theorem nocls_long {z : Str} (h : 12 < z.length) : isClsS z = false := by
  cases e : isClsS z with
  | false => rfl
  | true =>
    have := (isCls_iff.mp e).len
    omega
theorem nocls_one (z : Str) : isClsS (z ++ ("1" : Str)) = false := by
  cases e : isClsS (z ++ ("1" : Str)) with
  | false => rfl
  | true =>
    obtain ⟨c, r, e2, h1, h2, h3⟩ := isCls_iff.mp e
    have e2 : tl (z ++ ("1" : Str)) = c :: r := e2
    rw [tl_app] at e2
    have e3 : tl ("1" : Str) = [49] := by decide +kernel
    rw [e3] at e2
    have hm : 49 ∈ c :: r := by rw [← e2]; exact List.mem_append_right _ (List.mem_singleton.mpr rfl)
    rcases List.mem_cons.mp hm with h | h
    · omega
    · rcases h2 _ h with h | h <;> omega
theorem bad_tup {ps : Prs} {p : Addr} {xs : List V} {ds : List PyData} (hp : H p = none) (hd : DpAll K H xs ds) (hf : fit (.tuple ds) = true) (hn : fitsP (famKeys ps) (.tuple ds) = none) : Evl.Ex H (upd H p (.tup xs)) ∧ Bad K ps (upd H p (.tup xs)) (.ref p) :=
  ⟨Evl.Ex.new hp, _, .tup (SqT.of upd_same) (DpAll.mono (Evl.Ex.new hp) hd), hf, hn⟩
theorem bad_lst {ps : Prs} {p : Addr} {xs : List V} {ds : List PyData} (hp : H p = none) (hd : DpAll K H xs ds) (hf : fit (.list ds) = true) : Evl.Ex H (upd H p (.lst xs)) ∧ Bad K ps (upd H p (.lst xs)) (.ref p) :=
  ⟨Evl.Ex.new hp, _, .lst (SqL.of upd_same) (DpAll.mono (Evl.Ex.new hp) hd), hf, rfl⟩
theorem bad_non {ps : Prs} : Bad K ps H .non := ⟨_, .non, fit_n, rfl⟩
theorem bad_bl {ps : Prs} {b : Bool} : Bad K ps H (.bl b) := ⟨_, .bl b, fit_b, rfl⟩
theorem fit_one {d : PyData} (h1 : fit d = true) : fit (.tuple [d]) = true := by
  rw [fit, fitAll, fitAll, h1]
  rfl
theorem fit_nil : fit (.tuple []) = true := by
  rw [fit, fitAll]
  rfl
theorem fit_pairL {d e : PyData} (h1 : fit d = true) (h2 : fit e = true) : fit (.list [d, e]) = true := by
  rw [fit, fitAll, fitAll, fitAll, h1, h2]
  rfl
theorem atI_last {α : Type} {xs : List α} {v : α} (h : xs[xs.length - 1]? = some v) : atI xs (-1) = some v := by
  have hl : xs.length - 1 < xs.length := (List.getElem?_eq_some_iff.mp h).1
  unfold atI ixN
  rw [if_neg (by omega), if_pos (by omega)]
  show xs[((-1 : Int) + (xs.length : Int)).toNat]? = some v
  have e : ((-1 : Int) + (xs.length : Int)).toNat = xs.length - 1 := by omega
  rw [e]
  exact h
end
theorem mulOk_w {z : Str} {n : Int} (h0 : 1 < n) (h1 : n ≤ 100000) (h2 : z.length = 1) : MulOk z n := by
  refine ⟨?_, fun _ _ => ?_, fun _ _ => ?_⟩
  · have a : ¬ n < -(2 ^ 63 : Int) := by omega
    have b : ¬ n ≥ (2 ^ 63 : Int) := by omega
    rw [decide_eq_false a, decide_eq_false b]; rfl
  · rw [h2]
    have : (1 : Int) ≤ (2 ^ 63 - 1) / n := by
      rw [Int.le_ediv_iff_mul_le (by omega)]
      omega
    omega
  · rw [h2]
    exact decide_eq_false (by rw [sizeLine_eq]; omega)
end WP

set_option Elab.async false
set_option linter.all false
set_option maxRecDepth 100000
set_option maxHeartbeats 400000
/-! the head's facts of a program with own errors, own classes, static methods -/
namespace WP
open PySem PySem.Spec PyProof.Rows L2
/-- a def found by a path of one's own -/
structure PaD where
  path : PySem.W.Frag → Addr
  name : Str
  qual : Str
  st : Stmt
def fnWA (K : PySem.W.Frag) (a : Addr) : He.FnW := match K.lookup a with
  | some ⟨_, _, .func fd, _⟩ => some (fd.name, fd.qualname, fd.params, fd.body, fd.scope, fd.globals, fd.closure, fd.builtins)
  | _ => none
def PaD.val (d : PaD) : He.FnW := some (d.name, d.qual, defArgs d.st, .stmts (defBody d.st), defScope d.st, mainGlobals, [], builtinsNs)
def PaD.ok (K : PySem.W.Frag) (d : PaD) : Bool := PySem.W.keepIn K (.ref (d.path K)) && (match K.lookup (d.path K) with
  | some ⟨_, _, .func fd, _⟩ => PySem.W.codeIn K fd.code d.qual && (He.dflB K fd.defaults [] && He.kwdB K fd.kwdefaults [])
  | _ => false)
theorem PaD.funD {K : PySem.W.Frag} {d : PaD} (e : fnWA K (d.path K) = d.val) (c : d.ok K = true) : ∃ fd, FunD K d.name d.qual (defArgs d.st) (defBody d.st) (defScope d.st) [] [] (d.path K) fd := by
  unfold PaD.ok at c
  simp only [Bool.and_eq_true] at c
  obtain ⟨kp, rest⟩ := c
  split at rest
  · rename_i oc od fd sl at_
    simp only [fnWA, at_, PaD.val, Option.some.injEq, Prod.mk.injEq] at e
    simp only [Bool.and_eq_true] at rest
    obtain ⟨code, pos, kws⟩ := rest
    obtain ⟨a1, a2, a3, a4, a5, a6, a7, a8⟩ := e
    cases fd
    dsimp only at a1 a2 a3 a4 a5 a6 a7 a8
    subst a1 a2 a3 a4 a5 a6 a7 a8
    exact ⟨_, ⟨oc, od, _, _, _, _, _, _, _, sl, rfl, at_, code, He.dflB_ok pos, He.kwdB_ok kws⟩, kp⟩
  · exact absurd rest Bool.false_ne_true
abbrev AlF : Type := He.AlD × List InW × List He.FnW × Bool
def obsE3 (n : Nat) (fa : List He.Fa) (fn : List He.DefD) (xs : List ExD) (ys : List PaD) (ex : PySem.W.Frag → Bool) (g : Addr → Option Obj) : AlF :=
  (He.obsD fa fn (He.frG g (cStatics :: He.asD g n)), xs.map (fun d => inW (He.frG g (cStatics :: He.asD g n)) d.x), ys.map (fun d => fnWA (He.frG g (cStatics :: He.asD g n)) (d.path (He.frG g (cStatics :: He.asD g n)))), ex (He.frG g (cStatics :: He.asD g n)))
def hookE3 (n : Nat) (fa : List He.Fa) (fn : List He.DefD) (xs : List ExD) (ys : List PaD) (ex : PySem.W.Frag → Bool) : PySem.W.Hook where
  α := AlF
  obs := fun s => obsE3 n fa fn xs ys ex s.heap.get?
  val := fun _ => (He.valD fn, xs.map ExD.val, ys.map PaD.val, true)
  says := fun _ h => ∃ K : PySem.W.Frag, K.In h ∧ He.SaysD fa fn K ∧ xs.map (fun d => inW K d.x) = xs.map ExD.val ∧ ys.map (fun d => fnWA K (d.path K)) = ys.map PaD.val ∧ ex K = true
  of := fun _ _ e => ⟨_, He.frG_in, congrArg (fun z : AlF => z.1) e, congrArg (fun z : AlF => z.2.1) e, congrArg (fun z : AlF => z.2.2.1) e, congrArg (fun z : AlF => z.2.2.2) e⟩
  keeps := fun _ _ _ ⟨K, hK, c⟩ k => ⟨K, PySem.W.Frag.In.keeps hK k, c⟩
theorem obsE3_eq {n : Nat} {fa : List He.Fa} {fn : List He.DefD} {xs : List ExD} {ys : List PaD} {ex : PySem.W.Frag → Bool} {g : Addr → Option Obj} {s : Shared} (h : ∀ a, g a = s.heap.get? a) : obsE3 n fa fn xs ys ex g = (hookE3 n fa fn xs ys ex).obs s := by
  have e : g = s.heap.get? := funext h
  subst e
  rfl
theorem fnWA_at {K : PySem.W.Frag} {ys : List PaD} (h : ys.map (fun d => fnWA K (d.path K)) = ys.map PaD.val) (i : Nat) {d : PaD} (hd : ys[i]? = some d := by rfl) : fnWA K (d.path K) = d.val := by
  have := congrArg (fun l => l[i]?) h
  simp only [List.getElem?_map, hd] at this
  exact Option.some.inj this
theorem atM_of {fa : List He.Fa} {fn : List He.DefD} {K : PySem.W.Frag} {x m qual : Str} {st : Stmt} (c : He.SaysD fa fn K) (i j : Nat)
    (h1 : fn[i]? = some ⟨(x, some m), m, qual, defArgs st, defBody st, defScope st, [], []⟩ := by rfl) (h2 : fa[j]? = some (.meth x m) := by rfl) : AtM K (He.ga K x) m qual st := by
  obtain ⟨fd, F⟩ := c.def_ i h1
  exact ⟨_, fd, F, He.meth_ok (c.fact j h2)⟩
/-! ### a written tuple at an address; of pairs -/
def tupAtB (K : PySem.W.Frag) (a : Addr) (vs : List V) : Bool := match K.lookup a with
  | some ⟨.type c, _, .seq its _, _⟩ => decide (c = "tuple") && (decide (its.size ≤ sizeLine) && He.relAll vs its.toList)
  | _ => false
theorem tupAtB_ok {K : PySem.W.Frag} {a : Addr} {vs : List V} (h : tupAtB K a vs = true) (H : Hp) : SqT K H a vs := by
  unfold tupAtB at h
  split at h
  · rename_i c od its n sl e
    simp only [Bool.and_eq_true, decide_eq_true_eq] at h
    obtain ⟨rfl, few, rel⟩ := h
    exact .inr ⟨_, its, n, e, rfl, rfl, few, He.relAll_ok rel⟩
  · exact absurd h Bool.false_ne_true
/-- the tuple at a holds the pairs kvs -/
def prsB (K : PySem.W.Frag) : List Value → List (Key × V) → Bool
  | [], [] => true
  | .ref p :: us, kv :: kvs => tupAtB K p [kV kv.1, kv.2] && prsB K us kvs
  | _, _ => false
theorem prsB_ok {K : PySem.W.Frag} : ∀ {us : List Value} {kvs : List (Key × V)}, prsB K us kvs = true → ∃ ps : List Addr, us = ps.map Value.ref ∧ ∀ H, Paired (fun p kv => SqT K H p [kV kv.1, kv.2]) ps kvs
  | [], [], _ => ⟨[], rfl, fun _ => .nil⟩
  | .ref p :: us, kv :: kvs, h => by
    obtain ⟨h1, h2⟩ := He.ba (show (tupAtB K p [kV kv.1, kv.2] && prsB K us kvs) = true from h)
    obtain ⟨ps, e, k⟩ := prsB_ok h2
    exact ⟨p :: ps, by rw [e]; rfl, fun H => .cons (tupAtB_ok h1 H) (k H)⟩
  | [], _ :: _, h => by cases h
  | .ref p :: us, [], h => by cases h
  | .none :: us, kvs, h => by unfold prsB at h; cases h
  | .bool _ :: us, kvs, h => by unfold prsB at h; cases h
  | .int _ _ :: us, kvs, h => by unfold prsB at h; cases h
  | .str _ _ :: us, kvs, h => by unfold prsB at h; cases h
  | .bytes _ _ :: us, kvs, h => by unfold prsB at h; cases h
  | .float _ _ :: us, kvs, h => by unfold prsB at h; cases h
  | .type _ :: us, kvs, h => by unfold prsB at h; cases h
  | .builtin _ :: us, kvs, h => by unfold prsB at h; cases h
  | .notImplemented :: us, kvs, h => by unfold prsB at h; cases h
def dictB (K : PySem.W.Frag) (a : Addr) (kvs : List (Key × V)) : Bool := match K.lookup a with
  | some ⟨.type c, none, .seq its _, _⟩ => decide (c = "tuple") && (decide (its.size ≤ sizeLine) && prsB K its.toList kvs)
  | _ => false
theorem dictB_ok {K : PySem.W.Frag} {a : Addr} {kvs : List (Key × V)} (h : dictB K a kvs = true) : ∃ (o : Obj) (n : Nat) (ps : List Addr), K.lookup a = some o ∧ o.cls = .type "tuple" ∧ o.dict = none ∧ o.data = .seq (ps.map Value.ref).toArray n ∧ ps.length ≤ sizeLine ∧ ∀ H, Paired (fun p kv => SqT K H p [kV kv.1, kv.2]) ps kvs := by
  unfold dictB at h
  split at h
  · rename_i c its n sl e
    simp only [Bool.and_eq_true, decide_eq_true_eq] at h
    obtain ⟨rfl, few, prs⟩ := h
    obtain ⟨ps, eq, k⟩ := prsB_ok prs
    have same : its = (ps.map Value.ref).toArray := by rw [← eq]
    subst same
    exact ⟨_, n, ps, e, rfl, rfl, rfl, by simpa using few, k⟩
  · exact absurd h Bool.false_ne_true
/-- a static method of the class x -/
def statB (K : PySem.W.Frag) (C : Addr) (m : Str) : Bool := PySem.W.readsIn K C (.type "type") && (He.eqO (PySem.W.specialIn K (.ref C) "__getattribute__") (some (some (.builtin "type.__getattribute__"))) && He5.wrapB K C "staticmethod" "staticmethod.__get__" m)
theorem statB_ok {K : PySem.W.Frag} {C : Addr} {m : Str} (h : statB K C m = true) : ClX.CRead K C (.type "type") ∧ PySem.W.findCls K (.ref C) (.type "type") m = some (.get (.builtin "staticmethod.__get__") (.ref (He.ma K C m)) .none (.ref C)) ∧ ∃ rest, PySem.W.recIn K (He.ma K C m) "staticmethod" = some (.ref (He5.wf K C "staticmethod" m) :: rest) := by
  unfold statB at h
  obtain ⟨h1, h⟩ := He.ba h
  obtain ⟨h2, h3⟩ := He.ba h
  obtain ⟨h4, h5⟩ := He5.wrapB_ok h3
  exact ⟨⟨h1, He.eqO_ok h2⟩, h4, h5⟩
end WP

set_option Elab.async false
set_option linter.all false
set_option maxRecDepth 100000
set_option maxHeartbeats 400000
/-! comprehensions over a list whose elements lay new things; lower -/
namespace WP
open PySem PySem.Spec PyProof.Rows L2
theorem lc_GL {K : PySem.W.Frag} {a : Addr} {xs : List V} {g : TG} {te : TE} {vs : List Nat} {σ : L2.St} {H1 : Hp} {Qd : Hp → Prop} {D : Addr} (hD : H1 D = none) (hsq : SqL K H1 a xs) (hn : xs.length ≤ 1000000) (Dat : Nat → Hp → V → Prop) (mono : ∀ i G G' v, Evl.Ex G G' → Dat i G v → Dat i G' v)
    (hel : ∀ i x, xs[i]? = some x → ∀ H', Evl.Ex H1 H' → H' D ≠ none → ∀ (Q' : VK) (R : Hp → Prop), (∀ v H'', Evl.Ex H' H'' → Dat i (hid D H'') v → Q' v H'') → g x (wipe σ vs) H' fun σ2 H2 => wipe σ2 vs = wipe σ vs ∧ tYes σ2 H2 fun b H3 => if b = true then te σ2 H3 Q' else R H3)
    (q : ∀ H' ys, Evl.Ex H1 H' → H' D = some (.lst ys) → ys.length = xs.length → (∀ i v, ys[i]? = some v → Dat i (hid D H') v) → Qd H') :
    ∃ W : Nat → Nat → Hp → Prop, (∃ m, W 0 m (upd H1 D (.lst []))) ∧ ∀ i m H, W i m H →
      ((Itl K a).stop i H ∧ Qd H) ∨ ((Itl K a).go i H ∧ ∃ Nx : Hp → Prop, (∀ H', Nx H' → ∃ m', m' < m ∧ W (i + 1) m' H') ∧ ∀ x H', (Itl K a).yld i H x H' → g x (wipe σ vs) H' fun σ2 H2 => wipe σ2 vs = wipe σ vs ∧ tYes σ2 H2 fun b H3 =>
        if b = true then te σ2 H3 fun y H4 => ∃ acc, H4 D = some (.lst acc) ∧ acc.length < sizeLine ∧ Nx (upd H4 D (.lst (acc ++ [y]))) else Nx H3) := by
  refine lc_it (walk_list (K := K) (a := a) (xs := xs)) (fun i H' => ∃ acc : List V, H' D = some (.lst acc) ∧ acc.length = i ∧ Evl.Ex H1 H' ∧ ∀ j v, acc[j]? = some v → Dat j (hid D H') v) ?_ (fun i H' _ p => ?_) ?_ ?_
  · exact ⟨[], upd_same, rfl, Evl.Ex.new hD, fun j v h => by simp at h⟩
  · obtain ⟨acc, _, _, e, _⟩ := p
    exact Evl.ex_l e hsq
  · rintro i x H H' hi ⟨acc, h1, h2, h3, h4⟩ ⟨rfl, hx⟩
    refine hel i x hx H' h3 (by rw [h1]; exact fun e => by cases e) _ _ fun v H2 e2 hv => ⟨acc, e2 _ _ h1, by rw [sizeLine_eq]; omega, acc ++ [v], upd_same, by rw [List.length_append, h2]; rfl, Evl.Ex.mut (h3.trans e2) hD, fun j u hj => ?_⟩
    rw [hid_bag]
    by_cases hjl : j < acc.length
    · rw [List.getElem?_append_left hjl] at hj
      exact mono _ _ _ _ (hid_mono e2) (h4 j u hj)
    · have hj2 : j = acc.length := by
        have := (List.getElem?_eq_some_iff.mp hj).1
        rw [List.length_append, List.length_singleton] at this
        omega
      subst hj2
      rw [List.getElem?_append_right (Nat.le_refl _), Nat.sub_self] at hj
      have : v = u := by simpa using hj
      subst this
      rw [h2]
      exact hv
  · rintro H' ⟨ys, h1, h2, h3, h4⟩
    exact q H' ys h3 h1 h2 h4
/-- all values are known -/
theorem list_of {ys : List V} {n : Nat} {f : Nat → V} (hl : ys.length = n) (h : ∀ (i : Nat) (v : V), ys[i]? = some v → v = f i) : ys = (List.range n).map f := by
  refine List.ext_getElem? fun i => ?_
  by_cases hi : i < ys.length
  · rw [List.getElem?_eq_getElem hi, List.getElem?_map, List.getElem?_range (by omega)]
    exact congrArg some (h i _ (List.getElem?_eq_getElem hi))
  · rw [List.getElem?_eq_none (by omega), List.getElem?_eq_none (by rw [List.length_map, List.length_range]; omega)]
theorem map_of {α : Type} {ys : List V} {xs : List α} {f : α → V} (hl : ys.length = xs.length) (h : ∀ (i : Nat) (v : V), ys[i]? = some v → ∃ x, xs[i]? = some x ∧ v = f x) : ys = xs.map f := by
  refine List.ext_getElem? fun i => ?_
  by_cases hi : i < ys.length
  · obtain ⟨x, h1, h2⟩ := h i _ (List.getElem?_eq_getElem hi)
    rw [List.getElem?_eq_getElem hi, List.getElem?_map, h1, h2]
    rfl
  · rw [List.getElem?_eq_none (by omega), List.getElem?_eq_none (by rw [List.length_map]; omega)]
/-! ### lower -/
theorem lower_one : ∀ c ∈ capsL, Unicode.lowerOf c = [c + 32] := by decide +kernel
theorem lower_nocls {z : Str} (h : ClsN z) : isClsS (Txt.lower z) = false := by
  obtain ⟨c, r, e, h1, h2, h3⟩ := h
  cases q : isClsS (Txt.lower z) with
  | false => rfl
  | true =>
    obtain ⟨c', r', e', k1, k2, k3⟩ := isCls_iff.mp q
    exfalso
    have hz : z.cps = (c :: r).toArray := by
      apply Array.toList_inj.mp
      rw [e]
    have e0 : z.cps[0]? = some c := by rw [hz]; rfl
    have hl : Unicode.lowerAt z.cps 0 = [c + 32] := by
      unfold Unicode.lowerAt
      rw [e0]
      show (if c == 0x3A3 && Unicode.endsWord z.cps 0 then [0x3C2] else Unicode.lowerOf c) = _
      have : (c == 0x3A3) = false := by
        rw [beq_eq_false_iff_ne]
        omega
      rw [this, Bool.false_and, if_neg (by simp)]
      exact lower_one c (caps_mem.mpr h1)
    have hh : ∃ t, (Txt.lower z).cps.toList = (c + 32) :: t := by
      unfold Txt.lower placed
      refine ⟨(List.map Array.toList (List.mapIdx (fun i c => (Unicode.lowerAt z.cps (i + 1)).toArray) r)).flatten, ?_⟩
      simp [Array.toList_flatten, e, List.mapIdx_cons, hl, Function.comp_def]
    obtain ⟨t, ht⟩ := hh
    rw [ht] at e'
    injection e' with e1 _
    omega
/-! ### lists of class names as data -/
section
variable {K : PySem.W.Frag} {H : Hp}
theorem strs_dp {p : Addr} {l : List Str} (h : SqL K H p (l.map V.str)) : Dp K H (.ref p) (.list (l.map PyData.str)) := by
  refine .lst h ?_
  clear h
  induction l with
  | nil => exact .nil
  | cons z r ih => exact .cons (.str z) ih
theorem strs_shaped {l : List Str} (h : ∀ z ∈ l, PyData.strOk z = true) : SeqAt.shaped (.list (l.map PyData.str)) = true := by
  have e : l.map PyData.str = (l.map V.str).map datV := by rw [List.map_map]; rfl
  rw [e]
  refine shaped_list fun v hv => ?_
  obtain ⟨z, hz, rfl⟩ := List.mem_map.mp hv
  exact h z hz
theorem fam_strOk {ps : Prs} (ok : FamOk ps) : ∀ z ∈ famKeys ps, PyData.strOk z = true := fun z hz => cls_ok (ok.cl z hz)
theorem raw_names (rs : Raw) : names4.map V.str ++ rs.map (fun q => V.str q.1) = (famKeys (rs.map rawN)).map V.str := by
  rw [raw_keys, List.map_append, List.map_map]
  rfl
theorem raw_notin {rs : Raw} (ok : RawOk rs) {i : Nat} {q : Str × Option Str} (h : rs[i]? = some q) : q.1 ∉ famKeys ((rs.map rawN).take i) := (fitsP_spec (raw_step ok h).1).2.1
theorem rawN_val (q : Str × Option Str) : V.str (rawN q).2 = (if decide (optV q.2 = V.non) = true then V.str "Error" else optV q.2) := by
  obtain ⟨n, o⟩ := q
  cases o <;> rfl
theorem ixN_zero {n : Nat} (h : 0 < n) : ixN n 0 = some 0 := by
  unfold ixN
  rw [if_pos (by decide), if_pos (by omega)]
  rfl
theorem valV_of_mem : ∀ {kvs : List (Key × V)} {k : Key} {v : V}, (kvs.map (fun kv : Key × V => kv.1)).Nodup → (k, v) ∈ kvs → valV kvs k = some v
  | p :: r, k, v, nd, h => by
    rw [List.map_cons, List.nodup_cons] at nd
    rcases List.mem_cons.mp h with h | h
    · rw [← h]
      exact valV_pos rfl
    · have ne : ¬ p.1 = k := fun e => nd.1 (by rw [e]; exact List.mem_map.mpr ⟨_, h, rfl⟩)
      rw [valV_neg ne]
      exact valV_of_mem nd.2 h
theorem nodup_inr : ∀ {l : List Str}, l.Nodup → (l.map (Sum.inr : Str → Key)).Nodup
  | [], _ => List.nodup_nil
  | z :: r, h => by
    rw [List.nodup_cons] at h
    rw [List.map_cons, List.nodup_cons]
    refine ⟨fun hm => ?_, nodup_inr h.2⟩
    obtain ⟨y, h1, h2⟩ := List.mem_map.mp hm
    injection h2 with h2
    exact h.1 (h2 ▸ h1)
theorem fam_val {ps : Prs} (ok : FamOk ps) {q : Str × Str} (h : q ∈ ps) : valV (famKvs ps) (Sum.inr q.1) = some (V.str q.2) := by
  refine valV_of_mem ?_ ?_
  · have := nodup_inr ok.nd
    rw [← famKvs_fst] at this
    exact this
  · exact List.mem_append_right _ (List.mem_map.mpr ⟨q, h, rfl⟩)
theorem pr_of {G : Hp} {ps : Prs} {ys : List V} (hl : ys.length = ps.length) (h : ∀ (i : Nat) (v : V), ys[i]? = some v → ∃ q t, ps[i]? = some q ∧ v = .ref t ∧ G t = some (.tup [.str q.1, .str q.2])) : ∃ ts, ys = ts.map V.ref ∧ PrAt G ts ps := by
  induction ps generalizing ys with
  | nil =>
    have : ys = [] := List.eq_nil_of_length_eq_zero hl
    subst this
    exact ⟨[], rfl, .nil⟩
  | cons p r ih =>
    cases ys with
    | nil => cases hl
    | cons y yr =>
      obtain ⟨q, t, h1, h2, h3⟩ := h 0 y rfl
      have : p = q := by simpa using h1
      subst this
      obtain ⟨ts, e, hp⟩ := ih (by simpa using hl) fun i v hv => by
        obtain ⟨q, t, k1, k2, k3⟩ := h (i + 1) v (by simpa using hv)
        exact ⟨q, t, by simpa using k1, k2, k3⟩
      exact ⟨t :: ts, by rw [h2, e]; rfl, .cons h3 hp⟩
end
end WP

set_option Elab.async false
set_option linter.all false
set_option maxRecDepth 100000
set_option maxHeartbeats 400000
/-! joining ways; the first pair's parent left out; raw pairs as data -/
namespace WP
open PySem PySem.Spec PyProof.Rows L2
theorem ite_cut {p : Prop} {dp : Decidable p} {ta tb : TE} {σ : L2.St} {H : Hp} {Q : VK} (P : V → Hp → Prop) (h1 : p → ∀ Q : VK, (∀ v H', P v H' → Q v H') → ta σ H Q) (h2 : ¬ p → ∀ Q : VK, (∀ v H', P v H' → Q v H') → tb σ H Q) (k : ∀ v H', P v H' → Q v H') : if decide p = true then ta σ H Q else tb σ H Q :=
  iteD (fun h => h1 h Q k) fun h => h2 h Q k
theorem iteS_cut {p : Prop} {dp : Decidable p} {s1 s2 : TS} {D : Ends} {σ : L2.St} {H : Hp} (P : L2.St → Hp → Prop) (h1 : p → ∀ D' : Ends, (∀ σ' H', P σ' H' → D'.nx σ' H') → s1 D' σ H) (h2 : ¬ p → ∀ D' : Ends, (∀ σ' H', P σ' H' → D'.nx σ' H') → s2 D' σ H) (k : ∀ σ' H', P σ' H' → D.nx σ' H') : if decide p = true then s1 D σ H else s2 D σ H :=
  iteD (fun h => h1 h D k) fun h => h2 h D k
theorem famD_congr : ∀ {xs : List PyData} {acc acc' l : Prs}, famKeys acc = famKeys acc' → famD acc xs = .inr (acc ++ l) → famD acc' xs = .inr (acc' ++ l)
  | [], acc, acc', l, hk, e => by
    have e : (Sum.inr acc : Nat ⊕ Prs) = .inr (acc ++ l) := e
    injection e with e
    have : l = [] := by
      have := congrArg List.length e
      rw [List.length_append] at this
      exact List.eq_nil_of_length_eq_zero (by omega)
    subst this
    rw [List.append_nil]
    rfl
  | d :: r, acc, acc', l, hk, e => by
    rw [famD_cons] at e ⊢
    rw [← hk]
    cases hq : fitsP (famKeys acc) d with
    | none => rw [hq] at e; cases e
    | some q =>
      rw [hq] at e
      have e : famD (acc ++ [q]) r = .inr (acc ++ l) := e
      show famD (acc' ++ [q]) r = .inr (acc' ++ l)
      have hp : ∃ l', l = q :: l' := by
        have h1 := famD_take e 0 (Nat.zero_le _)
        rw [List.take_zero, Nat.add_zero] at h1
        have h1 : (Sum.inr (acc ++ [q]) : Nat ⊕ Prs) = .inr ((acc ++ l).take (acc ++ [q]).length) := h1
        injection h1 with h1
        rw [List.length_append, List.length_singleton, List.take_append, List.take_of_length_le (by omega)] at h1
        have h2 := List.append_cancel_left h1
        have e3 : acc.length + 1 - acc.length = 1 := by omega
        rw [e3] at h2
        cases l with
        | nil => simp at h2
        | cons a l' =>
          have : q = a := by simpa using h2
          exact ⟨l', by rw [this]⟩
      obtain ⟨l', rfl⟩ := hp
      have e1 : acc ++ q :: l' = (acc ++ [q]) ++ l' := by simp
      have e2 : acc' ++ q :: l' = (acc' ++ [q]) ++ l' := by simp
      rw [e1] at e
      rw [e2]
      exact famD_congr (by rw [famKeys_snoc, famKeys_snoc, hk]) e
theorem raw_first {q : Str × Option Str} {r : Raw} (h : RawOk (q :: r)) : RawOk ((q.1, none) :: r) := by
  have h0 := raw_step h (i := 0) (q := q) rfl
  have hf := h.fam
  refine ⟨?_⟩
  rw [List.map_cons, List.map_cons, famD_cons] at hf ⊢
  have h1 : fitsP (famKeys []) (rawD q) = some (rawN q) := h0.1
  obtain ⟨k1, k2, k3⟩ := fitsP_spec h1
  have h2 : fitsP (famKeys []) (rawD (q.1, none)) = some (rawN (q.1, none)) := rawD_fits k1 k2 (fun m e => by cases e)
  rw [h1] at hf
  rw [h2]
  have hf : famD ([] ++ [rawN q]) (r.map rawD) = .inr ([rawN q] ++ r.map rawN) := hf
  show famD ([] ++ [rawN (q.1, none)]) (r.map rawD) = .inr ([rawN (q.1, none)] ++ r.map rawN)
  exact famD_congr (acc := [rawN q]) (by unfold famKeys; rfl) hf
theorem rawD_ok {q : Str × Option Str} (h1 : ClsN q.1) (h2 : ∀ m, q.2 = some m → ClsN m) : (rawD q).canLay0 = true ∧ (rawD q).depth = 1 := by
  obtain ⟨n, o⟩ := q
  have h1 : ClsN n := h1
  cases o with
  | none => exact ⟨by simp [rawD, PyData.canLay0, PyData.canLayAll0, cls_ok h1], by simp [rawD, PyData.depth, PyData.depthAll]⟩
  | some m =>
    have h3 := h2 m rfl
    exact ⟨by simp [rawD, PyData.canLay0, PyData.canLayAll0, cls_ok h1, cls_ok h3], by simp [rawD, PyData.depth, PyData.depthAll]⟩
theorem raw_shaped {rs : Raw} (h : ∀ q ∈ rs, ClsN q.1 ∧ ∀ m, q.2 = some m → ClsN m) : SeqAt.shaped (.list (rs.map rawD)) = true := by
  have key : PyData.canLayAll0 (rs.map rawD) = true ∧ PyData.depthAll (rs.map rawD) ≤ 1 := by
    induction rs with
    | nil => exact ⟨by simp [PyData.canLayAll0], by simp [PyData.depthAll]⟩
    | cons q r ih =>
      obtain ⟨a, b⟩ := ih fun p hp => h p (List.mem_cons_of_mem _ hp)
      obtain ⟨c, d⟩ := rawD_ok (h q (List.mem_cons_self ..)).1 (h q (List.mem_cons_self ..)).2
      rw [List.map_cons, PyData.canLayAll0, PyData.depthAll, a, c, d]
      exact ⟨rfl, by omega⟩
  unfold SeqAt.shaped
  rw [PyData.canLay0, PyData.depth, key.1, Bool.true_and]
  exact decide_eq_true (by omega)
theorem raw_eqv_nil (rs : Raw) : PyData.eqv (.list (rs.map rawD)) (.list []) = decide (rs = []) := by
  cases rs with
  | nil => simp [PyData.eqv, PyData.eqvAll]
  | cons q r => simp [PyData.eqv, PyData.eqvAll]
theorem nil_shaped : SeqAt.shaped (.list []) = true := by decide +kernel
theorem cutV_drop1 {v : V} {xs : List V} : cutV (v :: xs) (some 1) none = xs := by
  unfold cutV
  have e1 : HT.sIx (v :: xs).length 0 (some 1) = min 1 (v :: xs).length := HT.sIx_nat (v :: xs).length 0 1
  rw [e1, HT.sIx_none, List.length_cons]
  have : min 1 (xs.length + 1) = 1 := by omega
  rw [this]
  simp
/-! ### heaps without two things -/
theorem ex_hid2 {b D : Addr} {H H' : Hp} (hD : H D = none) (e : Evl.Ex (hid b H) (hid b H')) : Evl.Ex (hid b H) (hid D (hid b H')) := fun a o h => hid_of (e a o h) fun z => by
  have := hid_get h
  rw [z, hD] at this
  cases this
theorem nov_hid2 {b D : Addr} {H H' : Hp} (hb : H b ≠ none) (hD : H D ≠ none) : Evl.Ex (nov H H') (hid D (hid b H')) := fun a o h => by
  obtain ⟨h1, h2⟩ := nov_get h
  exact hid_of (hid_of h2 fun e => hb (by rw [← e]; exact h1)) fun e => hD (by rw [← e]; exact h1)
theorem hid2_upd {b D : Addr} {H : Hp} {o : HO} : Evl.Ex (hid D (hid b H)) (hid b (upd H D o)) := fun a u h => by
  have h1 := hid_ne h
  have h2 := hid_get h
  have h3 := hid_ne h2
  exact hid_of (by rw [upd_ne h1]; exact hid_get h2) h3
theorem hid2_mono {b D : Addr} {H H' : Hp} (e : Evl.Ex (hid b H) (hid b H')) : Evl.Ex (hid D (hid b H)) (hid D (hid b H')) := fun a o h => hid_of (e _ _ (hid_get h)) (hid_ne h)
end WP

set_option Elab.async false
set_option linter.all false
set_option maxRecDepth 100000
set_option maxHeartbeats 1000000
/-! an error that an except clause hands on as a value: kept, its field read, isinstance -/
namespace WP
open PySem PySem.Spec PyProof.Rows L2
/-- an error object of the class cls at a, its dict at d -/
def exk (a : Addr) (cls : Value) (d : Option Addr) : HO := .ext fun h => ∃ (oe : Obj) (vs : Array Value), h.get? a = some oe ∧ Zc cls d oe ∧ oe.data = .fields vs
theorem exk_ok {P : Program} {w : World} {H : Hp} {h : Heap} {a : Addr} {cls : Value} {d : Option Addr} {oe : Obj} {vs : Array Value} (e : h.get? a = some oe) (z : Zc cls d oe) (hd : oe.data = .fields vs) : ObjOk P w H h a (exk a cls d) :=
  ⟨⟨oe, vs, e, z, hd⟩, ⟨oe, e⟩, fun _ _ ⟨o, v, q, r⟩ k => ⟨o, v, k o q, r⟩⟩
theorem exk_at {P : Program} {w : World} {H : Hp} {h : Heap} {a : Addr} {cls : Value} {d : Option Addr} (x : HOk P w H h) (ha : H a = some (exk a cls d)) : ∃ (oe : Obj) (vs : Array Value), h.get? a = some oe ∧ Zc cls d oe ∧ oe.data = .fields vs := (x a _ ha).1
section
variable {X : Cx} {pins : List (Addr × Obj)} {σ : L2.St} {H : Hp} {s : Shared}
/-- an object that is there and was not there at the entry is tracked from now on -/
theorem inv_track {a : Addr} {o : HO} {oe : Obj} (I : Inv X pins σ H s) (he : s.heap.get? a = some oe) (hd : ∀ v, oe.data ≠ .cell v) (n0 : X.s_0.heap.get? a = none) (hn : H a = none) (nL : a ≠ X.env.locals) (np : ∀ p ∈ X.pn ++ pins, p.1 ≠ a)
    (new : ObjOk X.prog X.w (upd H a o) s.heap a o) : Inv X pins σ (upd H a o) s := by
  have ne0 : ∀ b u, X.s_0.heap.get? b = some u → b ≠ a := fun b u e z => by rw [z, n0] at e; cases e
  have b := I.base
  refine ⟨I.ok, I.os, I.bare, ⟨b.keep, b.slot, fun c u e n hx => ?_, b.there, fun c xs e => ?_, fun c u v e => ?_, fun c ps e => ?_⟩, I.loc, I.cell, ?_, fun x c e => ?_, fun p hp => ?_, I.hok.laidN (fun _ _ q => q) hn new, I.len⟩
  · rw [upd_ne (ne0 c u e)]
    exact b.free c u e n hx
  · have q := b.tups c xs e
    rw [upd_ne (ne_of_none q hn)]
    exact q
  · have q := b.frzs c u v e
    rw [upd_ne (ne_of_none q hn)]
    exact q
  · obtain ⟨m, q⟩ := b.tbls c ps e
    exact ⟨m, by rw [upd_ne (ne_of_none q hn)]; exact q⟩
  · rw [upd_ne nL.symm]
    exact I.free
  · have nc : c ≠ a := fun z => by
      obtain ⟨v, oc, hc, hcd⟩ := I.cell x c e
      rw [z, he] at hc
      cases hc
      exact hd _ hcd
    rw [upd_ne nc]
    exact I.freeC x c e
  · obtain ⟨h1, h2, h3⟩ := I.pin p hp
    exact ⟨h1, by rw [upd_ne (np p hp)]; exact h2, h3⟩
end
/-- the ends behind a suite that kept its error: from there on the error is tracked, its name is gone -/
abbrev keepE (D : Ends) (i : Nat) (a : Addr) (cls : Value) (d : Option Addr) : Ends :=
  { nx := fun σ' H' => D.nx (σ'.set i none) (upd H' a (exk a cls d)), rt := fun v H' => D.rt v (upd H' a (exk a cls d)), bk := fun σ' H' => D.bk (σ'.set i none) (upd H' a (exk a cls d)), ct := fun σ' H' => D.ct (σ'.set i none) (upd H' a (exk a cls d)) }
/-- as wAs, but the error stays as a value -/
def wKeep (K : PySem.W.Frag) (c : Value) (i : Nat) (ts : Addr → Value → Option Addr → TS) (Wout : WX) (D : Ends) : WX := fun cls d σ H =>
  ∃ b, PySem.W.exmOne K cls c = some b ∧ (b = true → ∀ a, H a = none → ts a cls d (keepE D i a cls d) (σ.set i (some (.ref a))) H) ∧ (b = false → Wout cls d σ H)
/-- an error at a has come down to a try of this frame; was: the state without it, B: the ground under its flight -/
structure Down (X : Cx) (pins : List (Addr × Obj)) (σ : L2.St) (H : Hp) (a : Addr) (cls : Value) (d : Option Addr) (was : Shared) (B : Heap) (s : Shared) : Prop where
  inv : Inv X pins σ H was
  gr : ∀ b o, was.heap.get? b = some o → b ∉ frs X.stack → B.get? b = some o
  up : was.heap.UpToSlots s.heap
  os : s.os = was.os
  bare : AllBare s.gens
  off : H a = none
  fly : PX.FlyingZ B (X.env :: X.outer) a (Zc cls d) s.heap
section
variable {X : Cx} {pins : List (Addr × Obj)} {σ : L2.St} {H : Hp} {a : Addr} {cls : Value} {d : Option Addr} {was s : Shared} {B : Heap}
namespace Down
theorem now (w : Down X pins σ H a cls d was B s) : Inv X pins σ H s := w.inv.landed w.gr w.fly.1 w.up w.os w.bare
theorem shift (w : Down X pins σ H a cls d was B s) {h' : Heap} (fl : PX.FlyingZ B (X.env :: X.outer) a (Zc cls d) h') (u : s.heap.UpToSlots h') : Down X pins σ H a cls d was B { s with heap := h' } :=
  ⟨w.inv, w.gr, w.up.trans u, w.os, w.bare, w.off, fl⟩
theorem outside (w : Down X pins σ H a cls d was B s) : a ∉ frs (X.env :: X.outer) := fun m => by
  obtain ⟨oe, vs, he, -, hd⟩ := w.fly.there
  obtain ⟨-, o, ho, no⟩ := w.fly.2.2.1.mem m
  obtain rfl := Option.some.inj (he.symm.trans ho)
  exact no vs hd
theorem fresh (w : Down X pins σ H a cls d was B s) (hs : X.stack = X.env :: X.outer) : was.heap.get? a = none := by
  rcases e : was.heap.get? a with _ | o
  · rfl
  · have q := w.gr a o e (by rw [hs]; exact w.outside)
    rw [w.fly.2.1] at q
    cases q
theorem entry (w : Down X pins σ H a cls d was B s) (hs : X.stack = X.env :: X.outer) (hx : X.ex = []) : X.s_0.heap.get? a = none := by
  rcases e : X.s_0.heap.get? a with _ | o
  · rfl
  · obtain ⟨u, q⟩ := w.inv.base.there a o e (by simp [hx])
    rw [w.fresh hs] at q
    cases q
theorem unpinned (w : Down X pins σ H a cls d was B s) (hs : X.stack = X.env :: X.outer) (p : Addr × Obj) (hp : p ∈ X.pn ++ pins) : p.1 ≠ a := fun e => by
  have q := (w.inv.pin p hp).1
  rw [e, w.fresh hs] at q
  cases q
theorem notLocals (w : Down X pins σ H a cls d was B s) (hf : X.env.frame = some X.env.locals) : a ≠ X.env.locals :=
  fun e => w.outside (List.mem_filterMap.mpr ⟨X.env, .head _, by rw [hf, e]⟩)
theorem notBelow (w : Down X pins σ H a cls d was B s) : a ∉ X.fs := fun m => w.outside (by
  obtain ⟨e, h1, h2⟩ := List.mem_filterMap.mp m
  exact List.mem_filterMap.mpr ⟨e, .tail _ h1, h2⟩)
/-- a suite may begin -/
theorem hold (w : Down X pins σ H a cls d was B s) (hf : X.env.frame = some X.env.locals) :
    ∃ (oe : Obj) (vs : Array Value), Zc cls d oe ∧ oe.data = .fields vs ∧ Inv (X.suite a ((a, oe) :: (X.pn ++ pins))) [] σ H s := by
  obtain ⟨oe, vs, he, hz, hd⟩ := w.fly.there
  exact ⟨oe, vs, hz, hd, w.now.suite he hd w.off (w.notLocals hf) w.notBelow⟩
end Down
/-- the class that a clause names is read -/
theorem names_read {x : Str} {np : Pos} {c : Value} {pn : List (Addr × Obj)} {Q : Value → Shared → Prop} {E : Value → Shared → Prop} (S : Inv (X.suite a pn) [] σ H s) (hc : Names X x c) (q : Q c s) :
    wpAny (model X.prog X.w) (X.A.mark (some (.ref a))) (eval (.Name x np) X.env) Q E s := by
  obtain ⟨g, nd, m | ⟨m, v, nn⟩⟩ := hc
  · exact ld_glob (X := X.suite a pn) S g m q nd
  · exact ld_blt (X := X.suite a pn) S g m v q nn nd
/-- behind the suite: the error is tracked, its name goes -/
theorem keep_back {i : Nat} {n : Str} {pos : Pos} {oe : Obj} {vs : Array Value} {D : Ends} {f : Flow} (ok : X.Ok) (hN : X.N.Nodup) (hi : X.N[i]? = some n) (hln : X.env.kindOf n = some .local) (n0 : X.s_0.heap.get? a = none) (nL : a ≠ X.env.locals)
    (nP : ∀ p ∈ X.pn ++ pins, p.1 ≠ a) (hz : Zc cls d oe) (hd : oe.data = .fields vs) (h : SP (X.suite a ((a, oe) :: (X.pn ++ pins))) [] (keepE D i a cls d) f s) :
    wpAny (model X.prog X.w) X.A (do bindName X.env n .none; unbindBehindTheSuite X.env n pos) (fun _ s' => SP X pins D f s') X.xe s := by
  have on : ∀ {σ1 : L2.St} {H1 : Hp}, Inv (X.suite a ((a, oe) :: (X.pn ++ pins))) [] σ1 H1 s → Inv X pins σ1 (upd H1 a (exk a cls d)) s := fun S => by
    have p := S.pin (a, oe) (List.mem_append_left _ (.head _))
    exact inv_track (S.unsuite ok) p.1 (fun v z => by rw [hd] at z; cases z) n0 p.2.1 nL nP (exk_ok p.1 hz hd)
  rcases f with _ | _ | _ | u
  · exact let ⟨_, _, S, q⟩ := h; gone_ok (on S) hN hi hln fun s' J => ⟨_, _, J, q⟩
  · exact let ⟨_, _, S, q⟩ := h; gone_ok (on S) hN hi hln fun s' J => ⟨_, _, J, q⟩
  · exact let ⟨_, _, S, q⟩ := h; gone_ok (on S) hN hi hln fun s' J => ⟨_, _, J, q⟩
  · exact let ⟨v, _, _, S, r, q⟩ := h; gone_ok (on S) hN hi hln fun s' J => ⟨v, _, _, J, r, q⟩
variable {x n : Str} {c : Value} {i : Nat} {suite : List Stmt} {b₀ : Stmt} {np pos : Pos} {D : Ends}
/-- the clause takes it -/
theorem Down.taken {t : TS} {rest : List ExceptHandler} (w : Down X pins σ H a cls d was B s) (hex : X.ex = []) (hs : X.stack = X.env :: X.outer) (hf : X.env.frame = some X.env.locals) (hN : X.N.Nodup) (hi : X.N[i]? = some n) (hln : X.env.kindOf n = some .local) (hc : Names X x c)
    (hm : PySem.W.exmOne X.K cls c = some true) (run : ∀ oe, Zc cls d oe → (∃ vs, oe.data = .fields vs) → PSs (X.suite a ((a, oe) :: (X.pn ++ pins))) (b₀ :: suite) t) (h : t (keepE D i a cls d) (σ.set i (some (.ref a))) H) :
    wpAny (model X.prog X.w) X.A (handleBy (.ref a) X.env (.ExceptHandler (some (.Name x np)) (some n) (b₀ :: suite) pos :: rest)) (SP X pins D) X.xe s := by
  obtain ⟨_, _, _, _, S⟩ := w.hold hf
  refine PX.clause_asZ w.now.kIn (fun _ z => z.1) w.fly hm (fun {_ _} q => names_read S hc q) fun h' fl u => ?_
  obtain ⟨oe, vs, hz, hd, S'⟩ := (w.shift fl u).hold hf
  refine store_ok (X := X.suite a ((a, oe) :: (X.pn ++ pins))) (v := .ref a) S' hN hi (.inl hln) rfl (fun s1 S1 => ?_) (.inr hln)
  exact wpAny_mono ((run oe hz ⟨vs, hd⟩).run [] s1 _ H _ S1 h) (fun f s2 e => keep_back w.inv.ok hN hi hln (w.entry hs hex) (w.notLocals hf) (w.unpinned hs) hz hd e) fun _ _ z => z
/-- the clause does not take it: it flies on -/
theorem Down.missed {Wout : WX} {nm : Option Str} {body : List Stmt} {Q : Flow → Shared → Prop} (w : Down X pins σ H a cls d was B s) (hs : X.stack = X.env :: X.outer) (hf : X.env.frame = some X.env.locals) (hc : Names X x c) (tk : Takes X Wout)
    (hm : PySem.W.exmOne X.K cls c = some false) (ho : Wout cls d σ H) : wpAny (model X.prog X.w) X.A (handleBy (.ref a) X.env [.ExceptHandler (some (.Name x np)) nm body pos]) Q X.xe s := by
  obtain ⟨_, _, _, _, S⟩ := w.hold hf
  refine PX.clause_passZ w.now.kIn (fun _ z => z.1) w.fly hm (fun {_ _} q => names_read S hc q) (PX.no_clauseZ hf w.fly fun h' hd u => tk _ _ ?_)
  exact ⟨a, B, was, pins, σ, H, cls, d, rfl, w.inv, w.gr, w.up.trans u, .inr (.inr (by rw [hs]; exact hd)), w.off, w.os, w.bare, ho⟩
/-- the ends of a try's body are those of its frame -/
theorem sp_try {xe : Value → Shared → Prop} {f : Flow} (ok : X.Ok) (h : SP (X.tr (X.pn ++ pins) xe) [] D f s) : SP X pins D f s := by
  rcases f with _ | _ | _ | u
  · exact let ⟨σ1, H1, J, q⟩ := h; ⟨σ1, H1, J.ofTry ok, q⟩
  · exact let ⟨σ1, H1, J, q⟩ := h; ⟨σ1, H1, J.ofTry ok, q⟩
  · exact let ⟨σ1, H1, J, q⟩ := h; ⟨σ1, H1, J.ofTry ok, q⟩
  · exact let ⟨v, σ1, H1, J, r, q⟩ := h; ⟨v, σ1, H1, J.ofTry ok, r, q⟩
/-- what a try wishes of an error: that its clauses deal with it -/
abbrev caughtBy (X : Cx) (hl : List ExceptHandler) (Q : Flow → Shared → Prop) : Value → Shared → Prop := fun e s1 =>
  wpAny (model X.prog X.w) X.A (noteFrame e X.env) (fun _ s2 => wpAny (model X.prog X.w) X.A (setFlight e none) (fun _ s3 => wpAny (model X.prog X.w) X.A (handleBy e X.env hl) Q X.xe s3) X.xe s2) X.xe s1
theorem ps_try_keep {body : List Stmt} {pos' : Pos} {tb : WX → TS} {ts : Addr → Value → Option Addr → TS} {Wout : WX} (hex : X.ex = []) (hs : X.stack = X.env :: X.outer) (hf : X.env.frame = some X.env.locals) (hN : X.N.Nodup) (hi : X.N[i]? = some n) (hln : X.env.kindOf n = some .local) (hc : Names X x c) (tk : Takes X Wout)
    (hb : ∀ (W : WX) (pn : List (Addr × Obj)) (xe : Value → Shared → Prop), Takes (X.tr pn xe) W → PassesOwn (model X.prog X.w) X.A X.env xe → PSs (X.tr pn xe) body (tb W))
    (hsu : ∀ (a : Addr) (oe : Obj) (cls : Value) (d : Option Addr) (pn : List (Addr × Obj)), Zc cls d oe → (∃ vs, oe.data = .fields vs) → PSs (X.suite a ((a, oe) :: pn)) (b₀ :: suite) (ts a cls d)) :
    PS X (.Try body [.ExceptHandler (some (.Name x np)) (some n) (b₀ :: suite) pos'] [] [] pos) (fun D σ H => tb (wKeep X.K c i ts Wout D) D σ H) := by
  constructor
  intro pins s σ H D I h
  have ok := I.ok
  have fr : X.A.frames = some (X.env :: X.outer) := ok.frames.trans (congrArg some hs)
  have dn : Takes (X.tr (X.pn ++ pins) (caughtBy X [.ExceptHandler (some (.Name x np)) (some n) (b₀ :: suite) pos'] (SP X pins D))) (wKeep X.K c i ts Wout D) := by
    rintro _ s' ⟨a, B, was, pins', σ', H', cls, d, rfl, J, gr, up, sky, off, os, ag, b, hb1, yes, no⟩
    have sky' : Sky B (X.env :: X.outer) a (Zc cls d) X.env.locals s'.heap := by rw [← hs]; exact sky
    refine Sky.land Zc.steady fr hf sky' fun h3 fl u => ?_
    have w : Down X pins σ' H' a cls d was B { s' with heap := h3 } := ⟨J.ofTry ok, gr, up.trans u, os, ag, off, fl⟩
    cases b with
    | true => exact w.taken hex hs hf hN hi hln hc hb1 (fun oe hz hd => hsu a oe cls d _ hz hd) (yes rfl a off)
    | false => exact w.missed hs hf hc tk hb1 (no rfl)
  refine wpAny_Try_except (wpAny_mono ((hb _ _ _ dn PassesOwn.looking).run [] s σ H D (I.toTry _) h) (fun f s1 e => ?_) fun _ _ z => z)
  have e' := sp_try ok e
  cases f with
  | next => exact wpAny_execs_nil e'
  | _ => exact e'
end
/-! ### e.f of such a value -/
def tXv (K : PySem.W.Frag) (n : Str) (te : TE) : TE := fun σ H Q => te σ H fun x H1 => ∃ (a C d : Addr) (fs : List (Str × V)) (v : V), x = .ref a ∧ H1 a = some (exk a (.ref C) (some d)) ∧ H1 d = some (.xd fs) ∧ XfC K C ∧ PySem.W.findIn K (.ref C) n = some none ∧ fs.lookup n = some v ∧ Q v H1
theorem r_xv {K : PySem.W.Frag} {n : Str} {te : TE} {σ : L2.St} {H : Hp} {Q : VK} (q : te σ H fun x H1 => ∃ (a C d : Addr) (fs : List (Str × V)) (v : V), x = .ref a ∧ H1 a = some (exk a (.ref C) (some d)) ∧ H1 d = some (.xd fs) ∧ XfC K C ∧ PySem.W.findIn K (.ref C) n = some none ∧ fs.lookup n = some v ∧ Q v H1) : tXv K n te σ H Q := q
section
variable {X : Cx} {pins : List (Addr × Obj)} {σ : L2.St} {H : Hp} {s : Shared}
theorem exk_inst {a C d : Addr} {fs : List (Str × V)} (I : Inv X pins σ H s) (ha : H a = some (exk a (.ref C) (some d))) (hd : H d = some (.xd fs)) : ∃ (oe od : Obj) (mA : Str → Option Value), PySem.W.InstAt s.heap a oe C (some od) ∧ (∀ f, PySem.W.lookIn f od = some (mA f)) ∧ ∀ f, RelO (fs.lookup f) (mA f) := by
  obtain ⟨oe, vs, h1, hz, h2⟩ := exk_at I.hok ha
  obtain ⟨mA, hns, hr⟩ := (show ObjOk X.prog X.w H s.heap d (.xd fs) from I.hok d _ hd)
  obtain ⟨od, ho, hl⟩ := lookIn_ns hns
  exact ⟨oe, od, mA, ⟨h1, hz.1, by unfold PySem.W.notCls; rw [h2] <;> rfl, by rw [hz.2]; exact ho⟩, hl, hr⟩
theorem pe_xv (K : PySem.W.Frag) {e : Expr} {te : TE} {pos : Pos} {n : Str} (he : PE X e te) (hb : attributeBase e n X.env (eval e X.env) = eval e X.env := by rfl) (hK : X.K = K := by rfl) : PE X (.Attribute e n pos) (tXv K n te) := by
  subst hK
  refine ⟨fun pins s σ H Q I h => ?_⟩
  refine attr_of hb (thn (he.run pins s σ H _ I h) fun u s1 hh => ?_)
  obtain ⟨x, H1, I1, rx, a, C, d, fs, v, ex, ha, hd, T, hno, l, q⟩ := hh
  subst ex
  obtain rfl : u = Value.ref a := rx
  obtain ⟨oe, od, mA, J, hl, hr⟩ := exk_inst I1 ha hd
  obtain ⟨u, hu, ru⟩ := RelO.some_of (v := v) (o := mA n) (by rw [← l]; exact hr n)
  exact HandSPX.exc_get I1.kIn J T.ga T.gg T.exC (PySem.W.findObj_own T.hdC hno rfl (by rw [hl, hu])) (handed_of ru) ⟨v, H1, I1.tok _, ru, q⟩
end
/-- an own error, with a dict or without, for isinstance -/
theorem kit_err {K : PySem.W.Frag} {x D : Addr} {ox : Obj} {od : Option Obj} (C : ExcC K D) : PySem.W.KitX K (.ref x) (.ref D) (fun h => PySem.W.InstAt h x ox D od) :=
  PySem.W.kitx_exc (by obtain ⟨cd, e, -⟩ := PySem.W.any_some C.hd; rw [e]; rfl) C.hg C.hk C.hs C.ha C.hn C.ht C.hm
def rIsV (K : PySem.W.Frag) : List V → Hp → VK → Prop := fun xs H Q => ∃ (a D d : Addr) (fs : List (Str × V)) (c : V) (u : Value) (b : Bool), xs = [.ref a, c] ∧ H a = some (exk a (.ref D) (some d)) ∧ H d = some (.xd fs) ∧ ExcC K D ∧ ClsV c u ∧ PySem.W.kitOne K (.ref D) u = some b ∧ Q (.bl b) H
def rIsiB (K : PySem.W.Frag) : List V → Hp → VK → Prop := fun xs H Q => rIsi K xs H Q ∨ rIsV K xs H Q
theorem call_isV {X : Cx} : CallR X (.builtin "isinstance") (rIsV X.K) := by
  intro pins s σ H xs us Q I r h
  obtain ⟨a, D, d, fs, c, u, b, rfl, ha, hd, C, k, e, q⟩ := h
  obtain ⟨u1, u2, rfl, r1, r2⟩ := vals2 r
  cases r1
  have e2 := k.eq r2
  subst e2
  obtain ⟨oe, od, mA, J, _, _⟩ := exk_inst I ha hd
  exact PySem.W.kia_one (kit_err C) I.kIn J e (fun z => nomatch z) fun tk => ⟨.bl b, H, I.tok tk, rfl, q⟩
theorem call_isB {X : Cx} (K : PySem.W.Frag) (hK : X.K = K := by rfl) : CallR X (.builtin "isinstance") (rIsiB K) := by
  subst hK
  exact call_isi.or call_isV
end WP

set_option Elab.async false
set_option linter.all false
set_option maxRecDepth 100000
set_option maxHeartbeats 400000
/-! slices whose end may be None -/
namespace WP
open PySem PySem.Spec PyProof.Rows L2
def tPartN (t : TE) : TO := fun σ H Q => t σ H fun x H1 => (∃ i, x = .int i ∧ Q (some i) H1) ∨ (x = .non ∧ Q none H1)
theorem r_partN {t : TE} {σ : L2.St} {H : Hp} {Q : Option Int → Hp → Prop} (q : t σ H fun x H1 => (∃ i, x = .int i ∧ Q (some i) H1) ∨ (x = .non ∧ Q none H1)) : tPartN t σ H Q := q
theorem po_someN {X : Cx} {e : Expr} {te : TE} (h : PE X e te) : PO X (some e) (tPartN te) := by
  refine ⟨fun pins s σ H Q I hw => ?_⟩
  rw [evalPart_some]
  refine thn (h.run pins s σ H _ I hw) fun u s1 ⟨x, H1, I1, r1, q1⟩ => ?_
  rcases q1 with ⟨i, rfl, q⟩ | ⟨rfl, q⟩
  · obtain ⟨t, rfl⟩ := r1
    exact ⟨some i, H1, I1, .int i t, q⟩
  · cases r1
    exact ⟨none, H1, I1, .none, q⟩
/-! ### what is due -/
def dueVal (ds : List PyData) : V := match famD [] ds with
  | .inl k => .int (k : Nat)
  | .inr _ => .non
theorem fits_shape {ns : List Str} {d : PyData} {q : Str × Str} (h : fitsP ns d = some q) : ∃ e, d = .tuple [.str q.1, e] := by
  unfold fitsP at h
  split at h
  · split at h
    · cases h; exact ⟨_, rfl⟩
    · cases h
  · split at h
    · cases h; exact ⟨_, rfl⟩
    · cases h
  · cases h
theorem famD_lt : ∀ {xs : List PyData} {acc : Prs} {k : Nat}, famD acc xs = .inl k → acc.length ≤ k ∧ k < acc.length + xs.length
  | [], acc, k, e => by cases e
  | d :: r, acc, k, e => by
    rw [famD_cons] at e
    cases hq : fitsP (famKeys acc) d with
    | none =>
      rw [hq] at e
      have e : (Sum.inl acc.length : Nat ⊕ Prs) = .inl k := e
      injection e with e
      rw [List.length_cons]
      omega
    | some q =>
      rw [hq] at e
      obtain ⟨h1, h2⟩ := famD_lt e
      rw [List.length_append, List.length_singleton] at h1 h2
      rw [List.length_cons]
      omega
end WP

set_option Elab.async false
set_option linter.all false
set_option maxRecDepth 100000
set_option maxHeartbeats 4000000
/-! own errors over any builtin error B: W4, W5 and the kit's lemmas for ValueError, with the base left open -/
namespace WP
open PySem PySem.Spec PyProof.Rows L2
/-- own classes, then the tail -/
abbrev refsT (tl : List Value) : List Value → Bool := PySem.W.excTail tl
structure BaseX (B n i : String) (tl : List Value) : Prop where
  F : ExcBaseFacts B n i tl
  S : PySem.W.KxsFacts B i
  st : StoreFacts B tl "object.__setattr__" "object"
abbrev tailOf (B : String) : List Value := [.type B, .type "Exception", .type "BaseException", .type "object"]
theorem base_LookupError : BaseX "LookupError" "LookupError.__new__" "LookupError.__init__" (tailOf "LookupError") := ⟨F.excBase_LookupError, PySem.W.kxs_LookupError, F.store_LookupError⟩
theorem base_RuntimeError : BaseX "RuntimeError" "RuntimeError.__new__" "RuntimeError.__init__" (tailOf "RuntimeError") := ⟨F.excBase_RuntimeError, PySem.W.kxs_RuntimeError, F.store_RuntimeError⟩
theorem base_ValueError : BaseX "ValueError" "ValueError.__new__" "ValueError.__init__" (tailOf "ValueError") := ⟨F.excBase_ValueError, PySem.W.kxs_ValueError, F.store_ValueError⟩
/-- a class over such a base, as a store looks at it -/
structure Over (K : PySem.W.Frag) (C : Addr) (tl : List Value) (f : Str) : Prop where
  cls : ∃ cd, PySem.W.clsIn K C = some cd ∧ cd.hasDict = true
  up : PySem.W.excOver K C tl = true
  no : PySem.W.takerIn K C f = some none
/-- the first field of an own error: a dict is laid for it -/
theorem first_field {Bb nb ib : String} {tl : List Value} (BX : BaseX Bb nb ib tl) {prog : Program} {w : World} {A : Around} {R : Result → Shared → Prop} {s : Shared} {K : PySem.W.Frag} {f : Str} {tk : Tok} {v : Value} {a C t1 : Addr} (O : Over K C tl f) (X : K.In s.heap) (ha : s.heap.get? a = some (bare C t1 none))
    (done : ∀ h' tk', (∀ b o, b ≠ a → s.heap.get? b = some o → h'.get? b = some o) → h'.get? a = some (bare C t1 (some s.heap.objs.size)) → h'.Ns1 s.heap.objs.size (fun y => if y = f then some v else none) → R (.ok (.ret .none)) { s with heap := h', toks := tk' }) :
    codeAny (model prog w) A (.call (.builtin "object.__setattr__") ⟨[.ref a, .str f tk, v], []⟩) R s := by
  obtain ⟨cd, hC, hd⟩ := O.cls
  obtain ⟨hp, g, d, t, os⟩ := s
  have ne : a ≠ hp.objs.size := Nat.ne_of_lt (Heap.lt_size ha)
  refine PySem.W.osa_openX (od := none) BX.st X ⟨ha, rfl, rfl, trivial⟩ O.up O.no fun b => ?_
  refine wpAny_bind (wpAny_pure (wpAny_bind (PySem.W.instanceDict_exc ha (PySem.W.looks_clsIn X hC) hd ?_)))
  refine PX.store_in_new ⟨PySem.W.dictOf [] 0, #[], 0, (Heap.get?_update_ne _ _ _ _ ne.symm).trans (Heap.get?_push_at rfl rfl), rfl, fun e he => absurd he (by simp), fun _ => rfl⟩ fun h' tk' hn sb => done h' tk' (fun b o nb e => ?_) ?_ hn
  · rw [sb.2 b (Nat.ne_of_lt (Heap.lt_size e)), Heap.get?_update_ne _ _ _ _ nb]
    exact Heap.get?_push_of_some _ e
  · rw [sb.2 a ne]
    exact Heap.get?_update_self _ (Heap.get?_push_of_some _ ha) rfl
/-- a further field -/
theorem next_field {Bb nb ib : String} {tl : List Value} (BX : BaseX Bb nb ib tl) {prog : Program} {w : World} {A : Around} {R : Result → Shared → Prop} {s : Shared} {K : PySem.W.Frag} {f : Str} {tk : Tok} {v : Value} {a C t1 dx : Addr} {m : Str → Option Value} {ns : List Str} (O : Over K C tl f) (X : K.In s.heap)
    (ha : s.heap.get? a = some (bare C t1 (some dx))) (hn : s.heap.Ns1 dx m) (hw : Within m ns) (hz : ns.length ≤ 1000)
    (done : ∀ h' tk', (∀ b o, b ≠ dx → s.heap.get? b = some o → h'.get? b = some o) → h'.Ns1 dx (fun y => if y = f then some v else m y) → R (.ok (.ret .none)) { s with heap := h', toks := tk' }) :
    codeAny (model prog w) A (.call (.builtin "object.__setattr__") ⟨[.ref a, .str f tk, v], []⟩) R s := by
  obtain ⟨cd, hC, hd⟩ := O.cls
  obtain ⟨hp, g, d, t, os⟩ := s
  obtain ⟨od, -, -, ho, -⟩ := hn.count hw
  refine PySem.W.osa_openX (od := some od) BX.st X ⟨ha, rfl, rfl, ho⟩ O.up O.no fun b => ?_
  refine wpAny_bind (wpAny_pure (wpAny_bind (wpAny_bind (wpAny_loadPart ha (wpAny_bind ((PySem.W.looks_clsIn X hC).here ?_))))))
  rw [hd]
  refine wpAny_pure (a := some dx) (PX.store_in_old hn hw hz fun h' tk' hn' sb => done h' tk' (fun b o nb e => ?_) hn')
  rw [sb.2 b nb]
  exact e
/-- what the written part says of the class -/
structure OexG (K : PySem.W.Frag) (C : Addr) (B n i : String) (tl : List Value) : Prop where
  bx : BaseX B n i tl
  cls : ∃ nm q N bs bm sn sub ab col dd k0 k1 k2 k3 k5, K.lookup C = some (excClassObj nm q C N bs bm true sn sub ab col dd k0 k1 k2 k3 k5 n) ∧ refsT tl bm = true
  sa : PySem.W.findIn K (.ref C) "__setattr__" = some (some (.builtin "object.__setattr__"))
  exC : PySem.W.subIn K (.ref C) (.type "BaseException") = some true
  tyC : PySem.W.typeIn K (.ref C) = some (.type "type")
  kC : PySem.W.keepIn K (.ref C) = true

theorem OexG.over {K : PySem.W.Frag} {C : Addr} {Bb nb ib : String} {tl : List Value} {f : Str} (T : OexG K C Bb nb ib tl) (no : PySem.W.findIn K (.ref C) f = some none) : Over K C tl f := by
  obtain ⟨nm, q, N, bs, bm, sn, sub, ab, col, dd, k0, k1, k2, k3, k5, e, hbm⟩ := T.cls
  have c : ∃ cd, PySem.W.clsIn K C = some cd ∧ cd.hasDict = true ∧ cd.mro = .ref C :: bm := ⟨_, by unfold PySem.W.clsIn; rw [e] <;> rfl, rfl, rfl⟩
  obtain ⟨cd, h1, h2, h3⟩ := c
  refine ⟨⟨cd, h1, h2⟩, ?_, by unfold PySem.W.takerIn; rw [no]; rfl⟩
  unfold PySem.W.excOver
  rw [h1, Option.any_some, h3]
  simpa using hbm
section
variable {X : Cx} {pins : List (Addr × Obj)} {σ : L2.St} {H : Hp} {s : Shared} {a C dx : Addr} {f : Str} {y : V} {u : Value} {fs : List (Str × V)} {Q : Unit → Shared → Prop} {E : Value → Shared → Prop} {A : Around} {Bb nb ib : String} {tl : List Value}
theorem upd_comm {H : Hp} {a b : Addr} {o u : HO} (h : a ≠ b) : upd (upd H a o) b u = upd (upd H b u) a o := funext fun c => by
  by_cases ca : c = a
  · subst ca
    rw [upd_ne h, upd_same, upd_same]
  · rw [upd_ne ca]
    by_cases cb : c = b
    · subst cb
      rw [upd_same, upd_same]
    · rw [upd_ne cb, upd_ne cb, upd_ne ca]
theorem ost_newG (T : OexG X.K C Bb nb ib tl) (I : Inv X pins σ H s) (e : H a = some (exo a C none)) (hno : PySem.W.findIn X.K (.ref C) f = some none) (ry : RelV y u)
    (h : ∀ dx s', H dx = none → dx ≠ a → Inv X pins σ (upd (upd H dx (exd dx [(f, y)])) a (exo a C (some dx))) s' → Q () s') : wpAny (model X.prog X.w) A (setAttr (.ref a) f u) Q E s := by
  obtain ⟨t1, ho⟩ := exo_at I.hok e
  obtain ⟨hp, g, d, t, os⟩ := s
  refine PySem.W.set_plain I.kIn (od := none) ⟨ho, rfl, rfl, trivial⟩ T.sa (first_field T.bx (T.over hno) I.kIn ho fun h' tk' keep ha hn => ?_)
  have na : a ≠ hp.objs.size := Nat.ne_of_lt (Heap.lt_size ho)
  have nd : H hp.objs.size = none := I.hok.fresh (Nat.le_refl _)
  obtain ⟨od, es, ep, hod, isd, -⟩ := id hn
  have J := I.write (t' := tk') (x := a) (e := a) (o := exo a C (some hp.objs.size)) (by rw [e]; trivial) (.inl rfl) keep ⟨_, ha⟩ (exo_ok ha)
  have old : ∀ {b : Addr} {o : Obj}, hp.get? b = some o → b ≠ hp.objs.size := fun z => Nat.ne_of_lt (Heap.lt_size z)
  have J2 := inv_track (o := exd hp.objs.size [(f, y)]) J hod (fun v z => by rw [isd] at z; cases z) (by
      rcases z : X.s_0.heap.get? hp.objs.size with _ | o
      · rfl
      · exact absurd (Nat.lt_of_lt_of_le (Heap.lt_size z) I.sz) (Nat.lt_irrefl _))
    (by rw [upd_ne na.symm]; exact nd) (Nat.ne_of_gt I.lt) (fun p hp' => old (I.pin p hp').1) (exd_ok hn (relO_put (fs := []) ry fun _ => trivial))
  rw [upd_comm na] at J2
  exact h _ _ nd na.symm J2
theorem ost_oldG (T : OexG X.K C Bb nb ib tl) (I : Inv X pins σ H s) (e : H a = some (exo a C (some dx))) (ed : H dx = some (exd dx fs)) (hl : fs.length ≤ 900) (hno : PySem.W.findIn X.K (.ref C) f = some none) (ry : RelV y u)
    (h : ∀ s', Inv X pins σ (upd H dx (exd dx ((f, y) :: fs))) s' → Q () s') : wpAny (model X.prog X.w) A (setAttr (.ref a) f u) Q E s := by
  obtain ⟨t1, ho⟩ := exo_at I.hok e
  obtain ⟨m, hn, rel⟩ := exd_at I.hok ed
  obtain ⟨od, -, -, hod, -⟩ := hn.count (within_of rel)
  obtain ⟨hp, g, d, t, os⟩ := s
  refine PySem.W.set_plain I.kIn (od := some od) ⟨ho, rfl, rfl, hod⟩ T.sa (next_field T.bx (T.over hno) I.kIn ho hn (within_of rel) (by simp only [List.length_map]; omega) fun h' tk' keep hn' => h _ ?_)
  obtain ⟨o, -, -, q, -⟩ := id hn'
  exact I.write (t' := tk') (x := dx) (e := dx) (o := exd dx ((f, y) :: fs)) (by rw [ed]; trivial) (.inl rfl) keep ⟨o, q⟩ (exd_ok hn' (relO_put ry rel))
end

def tOstG (K : PySem.W.Frag) (Bb nb ib : String) (tl : List Value) (f : Str) (to te : TE) : TS := fun D σ H => te σ H fun y H1 => to σ H1 fun x H2 => ∃ a C : Addr, x = .ref a ∧ OexG K C Bb nb ib tl ∧ PySem.W.findIn K (.ref C) f = some none ∧
  H2 a = some (exo a C none) ∧ ∀ dx, H2 dx = none → dx ≠ a → D.nx σ (upd (upd H2 dx (exd dx [(f, y)])) a (exo a C (some dx)))
theorem ps_ostG {X : Cx} {o e : Expr} {to te : TE} {f : Str} {p' pos : Pos} {Bb nb ib : String} {tl : List Value} (ho : PE X o to) (he : PE X e te) (hs : swapsWith e (some (.Attribute o f p')) pos.line X.env = pure false := by rfl) : PS X (.Assign [.Attribute o f p'] e pos) (tOstG X.K Bb nb ib tl f to te) := by
  refine ⟨fun pins s σ H D I h => ?_⟩
  refine plainObj_wpAny_Assign_Attribute (thn (he.run pins s σ H _ I h) fun v s1 ⟨y, H1, I1, r1, q1⟩ => thn (ho.run pins s1 σ H1 _ I1 q1) fun u s2 ⟨x, H2, I2, r2, a, C, ex, T, hno, ea, q⟩ => ?_) hs
  subst ex
  obtain rfl : u = Value.ref a := r2
  exact ost_newG T I2 ea hno r1 fun dx s' n ne J => ⟨σ, _, J, q dx n ne⟩

/-- the class of an own error is called: the error is laid and its __init__ runs on it; what is to be said behind that is left open -/
theorem err_call {X : Cx} {CX : CXT} {k : Nat} {C fI : Addr} {fd : FuncData} {ps : List Str} {sp : Sp} {ds : List Value} {dvs : List V} {pins : List (Addr × Obj)} {σ : L2.St} {H : Hp} {s : Shared} {us : List Value} {vs : List V} {Q : Value → Shared → Prop} {G : Addr → Hp → Prop} {Bb nb ib : String} {tl : List Value}
    (T : OexG X.K C Bb nb ib tl) (iC : PySem.W.findIn X.K (.ref C) "__init__" = some (some (.ref fI))) (tI : PySem.W.typeIn X.K (.ref fI) = some (.type "function")) (F1 : FnOk X.prog X.w X.K X.mg X.base CX k fI fd ps sp) (hr : Room (k + 1) X.A) (hb : Binds X.K fd ps ds) (hd : Vals dvs ds)
    (hx : Passes CX X (fun _ _ _ => False)) (I : Inv X pins σ H s) (r : Vals vs us) (hz : vs.length ≤ 1000) (q : ∀ a, H a = none → sp (.ref a :: (vs ++ dvs)) (upd H a (exo a C none)) (fun v H2 => v = .non ∧ G a H2) (fun _ _ _ => False))
    (done : ∀ (a : Addr) (h1 : Heap) (s' : Shared) (H2 : Hp), s.heap.objs.size ≤ a → (∀ b o, s.heap.get? b = some o → h1.get? b = some o) → Inv X pins σ (upd H a (exo a C none)) { s with heap := h1 } → s'.os = s.os → AllBare s'.gens →
      Un (frs X.stack) [] (upd H a (exo a C none)) H2 h1 s'.heap → HOk X.prog X.w H2 s'.heap → G a H2 → Q (.ref a) s') : wpAny (model X.prog X.w) X.A (call (.ref C) us) Q X.xe s := by
  obtain ⟨nm, qn, N, bs, bm, sn, sub, ab, col, dd, k0, k1, k2, k3, k5, hC, hbm⟩ := T.cls
  obtain ⟨hp, g, d, t, os⟩ := s
  have small : us.length ≤ sizeLine := by rw [← Paired.length r, sizeLine_eq]; omega
  refine wpAny_call (PX.call_own T.bx.F (fun Y => PySem.W.excTail_contains Y bm hbm) (I.kIn _ _ hC) (PySem.W.looks_findIn I.kIn iC) (fun self => PySem.W.bind_fn I.kIn self tI) small ?_)
  have up : ∀ b o, hp.get? b = some o → ((hp.push (PySem.W.kdv_tup us)).push (PX.excO C hp.objs.size)).get? b = some o := fun b o e => Heap.get?_push_of_some _ (Heap.get?_push_of_some _ e)
  have J : Inv X pins σ (upd H (hp.objs.size + 1) (exo (hp.objs.size + 1) C none)) ⟨(hp.push (PySem.W.kdv_tup us)).push (PX.excO C hp.objs.size), g, d, t, os⟩ :=
    I.laid (t' := t) up (Nat.le_succ _) (exo_ok (t1 := hp.objs.size) (by heap_get))
  have free : H (hp.objs.size + 1) = none := I.hok.fresh (Nat.le_succ _)
  generalize (hp.push (PySem.W.kdv_tup us)).push (PX.excO C hp.objs.size) = h1 at up J ⊢
  have le : hp.objs.size ≤ hp.objs.size + 1 := Nat.le_succ _
  generalize hp.objs.size + 1 = a at J free le ⊢
  have r' : Vals (V.ref a :: (vs ++ dvs)) (Value.ref a :: (us ++ ds)) := .cons rfl (r.append hd)
  have many := r'.length.symm.trans (F1.len _ _ _ _ (q a free))
  refine codeAny_mono (F1.run _ X.stack _ _ ⟨.ref a :: us, []⟩ _ _ _ (fun _ _ _ => False) (hr.make C us []) (J.env0.make C us []) (hb _ (.ref a :: us) J.kIn many) r' (q a free)) fun res s' e => ?_
  rcases res with er | (_ | _ | _ | u)
  · exact hx pins σ _ _ er s' J e
  · exact e.elim
  · exact e.elim
  · exact e.elim
  · obtain ⟨v, H2, o2, b2, un, ok2, rv, rfl, z⟩ := e
    exact ⟨rv, done a h1 s' H2 le up J o2 b2 un ok2 z⟩
theorem pmk_oexG {X : Cx} {e : Expr} {es : List Expr} {ta : TA} {p pos : Pos} {Bb nb ib : String} {tl : List Value} {CX : CXT} {x : Str} {C fI : Addr} {k : Nat} {fd : FuncData} {ps : List Str} {sp : Sp} {ds : List Value} {dvs : List V} (T : OexG X.K C Bb nb ib tl) (iC : PySem.W.findIn X.K (.ref C) "__init__" = some (some (.ref fI))) (tI : PySem.W.typeIn X.K (.ref fI) = some (.type "function"))
    (F1 : FnOk X.prog X.w X.K X.mg X.base CX k fI fd ps sp) (hr : Room (k + 1) X.A) (hb : Binds X.K fd ps ds) (hd : Vals dvs ds) (hx : Passes CX X (fun _ _ _ => False)) (hg : Gl X x) (hm : X.mg x = some (.ref C)) (ha : PA X (e :: es) ta)
    (hdb : (x == ("__debug__" : Str)) = false := by decide) (he : starEach (e :: es) X.env = (false, eval e X.env) :: starEach es X.env := by rfl) (hpl : (backTo pos (starEach es X.env)).any (·.1) = false := by rfl) :
    PMk X (.Call (.Name x p) (e :: es) [] pos) (tMkO C sp dvs ta) := fun pins s σ H Q I h =>
  wpAny_Call_Name_kw (ld_glob I hg hm (PySem.W.callWith_K (h₀ := X.base) I.ok.mod.kin T.kC (thn (ha.run pos pins s σ H _ I h) fun us s1 ⟨vs, H1, I1, r1, hz, q1⟩ => ⟨I1.kIn, by
    obtain ⟨hp, g, d, t, os⟩ := s1
    refine err_call T iC tI F1 hr hb hd hx I1 r1 hz q1 fun a h1 s' H2 le up J o2 b2 un ok2 ⟨d, fs, ea, ed, hd1, z⟩ => ?_
    obtain ⟨h2, g2, d2, t2, os2⟩ := s'
    exact mk_end (raises_own T.exC T.tyC) I1 le up un ok2 o2 b2 ea ed hd1 z⟩) he hpl) hdb)

section
variable {X : Cx} {pins : List (Addr × Obj)} {σ : L2.St} {H : Hp} {s : Shared} {a C D f c cc : Addr} {body : List Stmt} {p0 p1 p2 p3 p4 p5 : Pos} {z : Str} {kk : Nat} {E : Value → Shared → Prop}
  {oc : Value} {od : Option Addr} {fd : FuncData} {osl : Array (Option Value)} {ar : Arg} {Q : Flow → Shared → Prop} {Bb nb ib : String} {tl : List Value}
/-- the wrapper is called -/
theorem mw_callG {u : Addr} {us : List Value} {Q : Value → Shared → Prop} (T : OexG X.K C Bb nb ib tl) (I : Inv X pins σ H s) (ea : H a = some (exo a C none)) (hu : s.heap.get? u = some (PySem.W.kxs_mw ib a)) (hl : us.length ≤ sizeLine) (h : ∀ s', Inv X pins σ H s' → Q .none s') :
    wpAny (model X.prog X.w) X.A (call (.ref u) us) Q E s :=
  wrapper_inv T.bx.F (by
    obtain ⟨nm, q, N, bs, bm, sn, sub, ab, col, dd, k0, k1, k2, k3, k5, z, _⟩ := T.cls
    exact ⟨nm, q, N, bs, bm, true, sn, sub, ab, col, dd, k0, k1, k2, k3, k5, z⟩) I ea hu hl h
theorem sup_stepG (T : OexG X.K C Bb nb ib tl) (U : SupIn X.prog X.K Bb ib C D c cc) (I : Inv X pins σ H s) (hks : X.env.kindOf "super" = some .globalImplicit) (hkc : X.env.kindOf "__class__" = some .free) (hfu : X.env.func = some f) (hco : X.env.code = .ref c)
    (hcl : X.env.cells.lookup ("__class__" : Str) = some cc) (hm : X.mg "super" = none) (hf : X.K.lookup f = some ⟨oc, od, .func fd, osl⟩) (hp : (fd.params.posonlyargs ++ fd.params.args).head? = some ar)
    (hN : X.N[0]? = some ar.arg) (hka : X.env.kindOf ar.arg = some .local) (hσ : σ[0]? = some (some (.ref a))) (ea : H a = some (exo a C none)) (hi : interactive X.env = false) {pl : Sem Bool}
    (he : eval (.Call (.Attribute (.Call (.Name "super" p0) [] [] p1) "__init__" p2) [.Constant (.str z) kk p3] [] p4) X.env = (do
      let ov ← attributeBase (.Call (.Name "super" p0) [] [] p1) "__init__" X.env (eval (.Call (.Name "super" p0) [] [] p1) X.env)
      standAt p2.atName
      let (f, first) ← holding [ov] (getMethod ov "__init__" pl)
      callWith p4 f first (backTo p4 (starEach [.Constant (.str z) kk p3] X.env)) [])) (hQ : ∀ s', Inv X pins σ H s' → Q .next s') :
    _root_.PySem.wpAt (model X.prog X.w) X.A (.func body X.env) (exec (.Expr (.Call (.Attribute (.Call (.Name "super" p0) [] [] p1) "__init__" p2) [.Constant (.str z) kk p3] [] p4) p5) X.env) Q X.xe s := by
  have KX := I.kIn
  obtain ⟨ccl, cdd, vs, ccs, file, tf, hcode, hvs, hfile⟩ := U.code
  obtain ⟨cl, cld, csl, hcell⟩ := U.cell
  obtain ⟨cdD, hD⟩ := U.cls
  obtain ⟨oD, hD1, hD2⟩ : ∃ oD, s.heap.get? D = some oD ∧ oD.data = .cls cdD := by
    unfold PySem.W.clsIn at hD
    split at hD
    · rename_i c d cd' sl ho
      cases hD
      exact ⟨_, KX _ _ ho, rfl⟩
    · cases hD
  obtain ⟨m, hns, hlo⟩ := I.loc
  obtain ⟨v, rv, hv⟩ := hlo 0 _ _ hN hσ (.inl hka)
  obtain rfl : v = Value.ref a := rv
  have hv : m ar.arg = some (.ref a) := by
    rcases hv with ⟨_, hv⟩ | ⟨hk, _⟩
    · exact hv
    · rcases hk with hk | hk <;> rw [hka] at hk <;> cases hk
  obtain ⟨t1, ho⟩ := exo_at I.hok ea
  obtain ⟨nm, q, N, bs, bm, sn, sub, ab, col, dd, k0, k1, k2, k3, k5, hC, hbm⟩ := T.cls
  have hclC : PySem.W.clsIn X.K C = some { name := nm, bases := bs, mro := .ref C :: bm, ns := N, qualname := q, hasDict := true, slotNames := sn, subclasses := sub, abstract := ab, collection := col, hasDel := false } := by unfold PySem.W.clsIn; rw [hC] <;> rfl
  refine ks_wpAt_Expr_any ?_ hi
  refine ks_wpAt_MethodCall ?_ he
  refine ks_wpAt_super_base (env := X.env) hks hkc (by decide) hfu (KX _ _ hf) rfl hp hco (KX _ _ hcode) rfl hvs hfile U.top ?_
  obtain ⟨mb, b1, b2⟩ := I.mod.blt
  refine PySem.W.ks_loadName_global I.ok.kind hks (PySem.Calls.loadGlobal_builtin (by rw [I.ok.glob]; exact I.mod.glob.keeps I.bk) hm (by rw [I.ok.blt]; exact b1.keeps I.bk) ((b2 _ (by decide)).trans PyProof.Rows.Boot.«super») ⟨rfl, ?_⟩)
  refine wpAny_loadName_free I.ok.kind hkc hcl ⟨_, KX _ _ hcell, rfl⟩ ?_
  refine wpAny_loadName_local I.ok.kind hka hns hv ?_
  refine ks_wpAny_isType_cls hD1 hD2 ⟨rfl, ?_⟩
  obtain ⟨hh, g, d, t, os⟩ := s
  refine ks_wpAny_call_super hD1 hD2 ho rfl (fun c e => by cases e) (PySem.W.looks_mroIn KX U.msub) (fun h' e k => ?_)
  have I2 : Inv X pins σ H ⟨h', g, d, t, os⟩ := I.kept (t' := t) k
  have hm2 := U.sup
  unfold PySem.W.ks_superIn at hm2
  rw [hclC] at hm2
  have hI : PySem.W.Looks (model X.prog X.w) h' (isInstance (.ref a) (.type Bb)) true := (PySem.W.InstAt.type (x := a) (od := none) ⟨k _ _ ho, rfl, rfl, trivial⟩).andThen (PySem.W.looks_subIn I2.kIn U.subB)
  have hac : a ≠ C := fun e => by
    have h1 : hh.get? C = _ := KX _ _ hC
    rw [← e, ho] at h1
    cases h1
  refine PySem.W.kxs_getMethod T.bx.S e (PySem.W.looks_opaque I2.kIn U.opq) (l₀ := .ref C :: bm) ?_ rfl I2.kIn hm2 hI hac (by decide) ?_
  · exact fun A Q E s k q => wpAny_bind ((PySem.W.looks_clsIn I2.kIn hclC) A _ E s k (wpAny_pure q))
  have hpu : ∀ b o, h'.get? b = some o → (h'.push (PySem.W.kxs_mw ib a)).get? b = some o := fun b o e => Heap.get?_push_of_some _ e
  have hmw : (h'.push (PySem.W.kxs_mw ib a)).get? h'.objs.size = some (PySem.W.kxs_mw ib a) := Heap.get?_push_at rfl rfl
  have I3 : Inv X pins σ H ⟨h'.push (PySem.W.kxs_mw ib a), g, d, t + 1, os⟩ := I2.kept (t' := t + 1) hpu
  have nu : H h'.objs.size = none := I2.hok.fresh (Nat.le_refl _)
  have I5 : Inv X (pins ++ [(h'.objs.size, PySem.W.kxs_mw ib a)]) σ H ⟨h'.push (PySem.W.kxs_mw ib a), g, d, t + 1, os⟩ := ⟨I3.ok, I3.os, I3.bare, I3.base, I3.loc, I3.cell, I3.free, I3.freeC, fun p hp => by
    rw [← List.append_assoc] at hp
    rcases List.mem_append.mp hp with hp | hp
    · exact I3.pin p hp
    · rw [List.mem_singleton.mp hp]
      exact ⟨hmw, nu, Nat.ne_of_gt I2.lt, I2.nofs (Nat.le_refl _), fun v e => by cases e⟩, I3.hok, I3.len⟩
  generalize h'.objs.size = u at I5 hmw nu ⊢
  generalize h'.push (PySem.W.kxs_mw ib a) = h3 at I5 I3 hmw hpu ⊢
  refine PySem.W.kxs_callWith (i := ib) (x := a) rfl ?_
  refine PySem.Calls.evalArgs_plain ?_
  refine thn ((pa_cons (pe_str (x := z) (j := kk) (pos := p3)) pa_nil : PA X [.Constant (.str z) kk p3] (tCons (tC (.str z)) tNil)).run p4 _ _ σ H (fun vs H1 => vs = [.str z] ∧ H1 = H) I5 ⟨rfl, rfl⟩) fun us s1 ⟨vs, H1, I4, rv, ev, eH⟩ => ?_
  subst eH ev
  have hpin := (I4.pin (u, PySem.W.kxs_mw ib a) (List.mem_append_right _ (List.mem_append_right _ (List.mem_singleton.mpr rfl)))).1
  have I6 : Inv X pins σ H1 s1 := I4.unpinned
  have hl : us.length ≤ sizeLine := by
    rw [← Paired.length rv, sizeLine_eq]
    simp
  exact ⟨hpin, mw_callG T I6 ea hpin hl hQ⟩
end
/-- the __init__ of such a class, by the rest of its body -/
theorem fn_supG {Bb nb ib : String} {tl : List Value} {CX : CXT} {P : Program} {w : World} {K : PySem.W.Frag} {mg : Str → Option Value} {base : Heap} {k : Nat} {f c cc D : Addr} {name qual : Str} {params : Arguments} {rest : List Stmt} {scope : Scope} {dV kV doc pm ct oc : Value} {an od : Option Addr}
    {osl : Array (Option Value)} {N ps : List Str} {sp : Sp} {p0 p1 p2 p3 p4 p5 : Pos} {z : Str} {kk : Nat} {ar : Arg}
    (lk : K.lookup f = some ⟨oc, od, .func (PySem.W.fnX name qual params (.Expr (.Call (.Attribute (.Call (.Name "super" p0) [] [] p1) "__init__" p2) [.Constant (.str z) kk p3] [] p4) p5 :: rest) scope [("__class__", cc)] dV kV doc pm an (.ref c) ct), osl⟩)
    (hcd : PySem.W.codeIn K (.ref c) qual = true) (S : NdefX.NScope N ps ["__class__"] scope) (hm : mg "super" = none) (hp : (params.posonlyargs ++ params.args).head? = some ar) (hN : N[0]? = some ar.arg) (hka : scope.names.lookup ar.arg = some .local)
    (hks : scope.names.lookup ("super" : Str) = some .globalImplicit)
    (he : ∀ env, ∃ pl, eval (.Call (.Attribute (.Call (.Name "super" p0) [] [] p1) "__init__" p2) [.Constant (.str z) kk p3] [] p4) env = (do
      let ov ← attributeBase (.Call (.Name "super" p0) [] [] p1) "__init__" env (eval (.Call (.Name "super" p0) [] [] p1) env)
      standAt p2.atName
      let (f, first) ← holding [ov] (getMethod ov "__init__" pl)
      callWith p4 f first (backTo p4 (starEach [.Constant (.str z) kk p3] env)) []))
    (len : ∀ vs H Q E, sp vs H Q E → vs.length = ps.length)
    (hbody : ∀ (A : Around) (outer : List Env) (s : Shared) (H : Hp) (vs : List V) (Q : VK) (E : XK), sp vs H Q E →
      (∃ (a C : Addr) (ws : List V), vs = .ref a :: ws ∧ OexG K C Bb nb ib tl ∧ SupIn P K Bb ib C D c cc ∧ H a = some (exo a C none)) ∧
      ∃ t, PSs (NdefX.ncx CX P w K mg base N ⟨name, qual, params, rest, scope, [("__class__", cc)], c⟩ f A outer s H E) rest t ∧ t { nx := fun _ H' => Q .non H', rt := Q } (NdefX.startF N vs [none]) H) :
    FnOk P w K mg base CX (k + 1) f (PySem.W.fnX name qual params (.Expr (.Call (.Attribute (.Call (.Name "super" p0) [] [] p1) "__init__" p2) [.Constant (.str z) kk p3] [] p4) p5 :: rest) scope [("__class__", cc)] dV kV doc pm an (.ref c) ct) ps sp := by
  refine ⟨len, fun A outer s H args us vs Q E hr e0 hb r hsp => ?_⟩
  have hl := len _ _ _ _ hsp
  have KX : K.In s.heap := e0.mod.kin.keeps fun b o e => (e0.bs b o e).1
  have lim : s.heap.NoLimit := e0.mod.nolimit.keeps fun b o e => (e0.bs b o e).1
  obtain ⟨⟨a, C, ws, rfl, T, U, ea⟩, t, ht, hq⟩ := hbody A outer s H vs Q E hsp
  obtain ⟨cl, cld, csl, hcell⟩ := U.cell
  have CA : NdefX.CellsAt [(("__class__" : Str), cc)] ["__class__"] [none] s.heap H := ⟨rfl, fun y c' e => by
      have e' := PySem.mem_of_lookup e
      rw [List.mem_singleton] at e'
      injection e' with e1 e2
      subst e2
      exact ⟨(e0.bs _ _ (e0.mod.kin _ _ hcell)).2, _, _, KX _ _ hcell, rfl⟩, fun x y c' h1 h2 => by
      have e1 := PySem.mem_of_lookup h1
      have e2 := PySem.mem_of_lookup h2
      rw [List.mem_singleton] at e1 e2
      injection e1 with e1 _
      injection e2 with e2 _
      rw [e1, e2], fun i y h => by
      have : y = ("__class__" : Str) := by
        have := List.mem_of_getElem? h
        simpa using this
      subst this
      exact ⟨cc, by simp [List.lookup], fun v hv => by
        cases i with
        | zero => simp at hv
        | succ i => simp at hv⟩⟩
  refine ks_codeAny_call_defAt (binds := ps.zip us) hr.depth (KX _ _ lk) rfl lim (PySem.W.codeRec_of KX hcd) rfl hb S.nocell (fun ⟨n, _⟩ hy => S.par n (List.of_mem_zip hy).1) (fun h₁ hns kp => ?_) S.co S.gen S.kind
  have I : Inv (NdefX.ncx CX P w K mg base N ⟨name, qual, params, rest, scope, [("__class__", cc)], c⟩ f A outer s H E) [] (NdefX.startF N (.ref a :: ws) [none]) H { s with heap := h₁, toks := s.toks + (ps.zip us).length } := NdefX.inv_startN S hr.hd e0 hl r CA hns kp
  obtain ⟨pl, he⟩ := he (NdefX.ncx CX P w K mg base N ⟨name, qual, params, rest, scope, [("__class__", cc)], c⟩ f A outer s H E).env
  refine ks_wpAt_execs_cons ?_
  refine sup_stepG (X := NdefX.ncx CX P w K mg base N ⟨name, qual, params, rest, scope, [("__class__", cc)], c⟩ f A outer s H E) T U I hks (S.frk _ (List.mem_singleton.mpr rfl)) rfl rfl (by show List.lookup ("__class__" : Str) [(("__class__" : Str), cc)] = some cc; simp [List.lookup]) hm lk hp hN hka (by rfl) ea (by show (scope.kind == ScopeKind.module && _) = false; rw [S.kind]; rfl) he fun s' J => ?_
  refine wpAt_of_wpAny (wpAny_mono (ht.run [] s' _ H _ J hq) (fun fl s'' hs => ?_) fun e s' hs => hs)
  have fin : ∀ {σ' : L2.St} {H' : Hp} {v : V} {u : Value}, Inv (NdefX.ncx CX P w K mg base N ⟨name, qual, params, rest, scope, [("__class__", cc)], c⟩ f A outer s H E) [] σ' H' s'' → L2.RelV v u → Q v H' → CE outer P w H s Q u s'' :=
    fun {σ' H' v u} J rv q => ⟨v, H', J.os, J.bare, J.base, J.hok, rv, q⟩
  cases fl with
  | ret u =>
    obtain ⟨v, σ', H', J, rv, q⟩ := hs
    exact fin J rv q
  | next =>
    obtain ⟨σ', H', J, q⟩ := hs
    exact fin (v := V.non) (u := Value.none) J rfl q
  | brk =>
    obtain ⟨_, _, _, q⟩ := hs
    exact False.elim q
  | cont =>
    obtain ⟨_, _, _, q⟩ := hs
    exact False.elim q

def oexBG (tl : List Value) (nb : String) (K : PySem.W.Frag) (C : Addr) : Bool := match K.lookup C with
  | some ⟨.type t, _, .cls ⟨_, _, .ref c :: bm, _, _, true, _, _, _, _, false⟩, ⟨[_, _, _, _, some (.builtin n), _]⟩⟩ => decide (t = "type") && (decide (c = C) && (refsT tl bm && decide (n = nb)))
  | _ => false
def excBG (Bb nb ib : String) (tl : List Value) (P : Program) (K : PySem.W.Frag) (d : ExD) : Bool :=
  supB P K (He.ga K d.x) (He.ma K (He.ga K d.x) "__init__") d.qual && (oexBG tl nb K (He.ga K d.x) && (He.eqO (PySem.W.findIn K (.ref (He.ga K d.x)) "__setattr__") (some (some (.builtin "object.__setattr__"))) && (decide (PySem.W.typeIn K (.ref (He.ga K d.x)) = some (.type "type")) && (PySem.W.keepIn K (.ref (He.ga K d.x)) &&
    (He.eqO (PySem.W.findIn K (.ref (He.ga K d.x)) "__init__") (some (some (.ref (He.ma K (He.ga K d.x) "__init__")))) && (decide (PySem.W.typeIn K (.ref (He.ma K (He.ga K d.x) "__init__")) = some (.type "function")) && (decide (PySem.W.mroIn K (He.ga K d.x) (.ref (He.ga K d.x)) = some true) &&
    (He.eqO (PySem.W.ks_superIn K (He.ga K d.x) (He.ga K d.x) "__init__") (some (some (.builtin ib))) && (decide (PySem.W.subIn K (.ref (He.ga K d.x)) (.type Bb) = some true) && (He.eqO (PySem.W.nsIn K cStatics "thirdparty.any") (some none) && (xfB K (He.ga K d.x) && He.eqO (PySem.W.nsIn K mainGlobals d.x) (some (some (.ref (He.ga K d.x)))))))))))))))
theorem oexBG_ok {tl : List Value} {nb : String} {K : PySem.W.Frag} {C : Addr} (h : oexBG tl nb K C = true) : ∃ nm q N bs bm sn sub ab col dd k0 k1 k2 k3 k5, K.lookup C = some (excClassObj nm q C N bs bm true sn sub ab col dd k0 k1 k2 k3 k5 nb) ∧ refsT tl bm = true := by
  unfold oexBG at h
  split at h
  · rename_i t dd nm bs c bm N q sn sub ab col k0 k1 k2 k3 n k5 e
    obtain ⟨h1, h⟩ := Bool.and_eq_true_iff.mp h
    obtain ⟨h2, h⟩ := Bool.and_eq_true_iff.mp h
    obtain ⟨h3, h4⟩ := Bool.and_eq_true_iff.mp h
    have h1 := of_decide_eq_true h1
    have h2 := of_decide_eq_true h2
    have h4 := of_decide_eq_true h4
    subst h1 h2 h4
    exact ⟨nm, q, N, bs, bm, sn, sub, ab, col, dd, k0, k1, k2, k3, k5, e, h3⟩
  · cases h
/-- what the written part says of such a class at C, its __init__ at f -/
structure ExcTG (Bb nb ib : String) (tl : List Value) (P : Program) (K : PySem.W.Frag) (mg : Str → Option Value) (x qual : Str) (st : Stmt) (C f : Addr) : Prop where
  gC : mg x = some (.ref C)
  T : OexG K C Bb nb ib tl
  xf : XfC K C
  iC : PySem.W.findIn K (.ref C) "__init__" = some (some (.ref f))
  tI : PySem.W.typeIn K (.ref f) = some (.type "function")
  fn : ∃ (oc : Value) (od : Option Addr) (kV doc pm : Value) (an : Option Addr) (c cc : Addr) (ct : Value) (osl : Array (Option Value)),
    K.lookup f = some ⟨oc, od, .func (PySem.W.fnX "__init__" qual (defArgs st) (defBody st) (defScope st) [("__class__", cc)] .none kV doc pm an (.ref c) ct), osl⟩ ∧ PySem.W.codeIn K (.ref c) qual = true ∧ SupIn P K Bb ib C C c cc
theorem excTG_of {Bb nb ib : String} {tl : List Value} (BX : BaseX Bb nb ib tl) {P : Program} {K : PySem.W.Frag} {mg : Str → Option Value} {h : Heap} {d : ExD} (X : K.In h) (G : h.Ns mainGlobals mg) (e : inW K d.x = d.val) (b : excBG Bb nb ib tl P K d = true) (htop : (P.main.scope.names.lookup ("super" : Str)).isSome = false) :
    ExcTG Bb nb ib tl P K mg d.x d.qual d.st (He.ga K d.x) (He.ma K (He.ga K d.x) "__init__") := by
  unfold excBG at b
  obtain ⟨b1, b⟩ := Bool.and_eq_true_iff.mp b
  obtain ⟨b2, b⟩ := Bool.and_eq_true_iff.mp b
  obtain ⟨b3, b⟩ := Bool.and_eq_true_iff.mp b
  obtain ⟨b4, b⟩ := Bool.and_eq_true_iff.mp b
  obtain ⟨b5, b⟩ := Bool.and_eq_true_iff.mp b
  obtain ⟨b6, b⟩ := Bool.and_eq_true_iff.mp b
  obtain ⟨b7, b⟩ := Bool.and_eq_true_iff.mp b
  obtain ⟨b8, b⟩ := Bool.and_eq_true_iff.mp b
  obtain ⟨b9, b⟩ := Bool.and_eq_true_iff.mp b
  obtain ⟨b10, b⟩ := Bool.and_eq_true_iff.mp b
  obtain ⟨b11, b⟩ := Bool.and_eq_true_iff.mp b
  obtain ⟨b12, b13⟩ := Bool.and_eq_true_iff.mp b
  have xf := xfB_ok b12
  refine ⟨PySem.W.mg_of X G (He.eqO_ok b13), ⟨BX, oexBG_ok b2, He.eqO_ok b3, xf.exC, of_decide_eq_true b4, b5⟩, xf, He.eqO_ok b6, of_decide_eq_true b7, ?_⟩
  have oex := oexBG_ok b2
  unfold supB at b1
  unfold inW at e
  have ef : He.fAd K (d.x, some "__init__") = He.ma K (He.ga K d.x) "__init__" := rfl
  rw [ef] at e
  cases q : K.lookup (He.ma K (He.ga K d.x) "__init__") with
  | none =>
    rw [q] at b1
    cases b1
  | some o =>
    obtain ⟨oc, od, dt, osl⟩ := o
    rw [q] at b1 e
    cases dt with
    | func fd =>
      obtain ⟨n1, n2, n3, n4, n5, n6, n7, n8, n9, n10, n11, n12, n13, n14, n15⟩ := fd
      have e2 : (some (n1, n2, n3, n4, n5, n6, n7.map (·.1), n15) : InW) = some (("__init__" : Str), d.qual, defArgs d.st, FuncBody.stmts (defBody d.st), defScope d.st, mainGlobals, [("__class__" : Str)], builtinsNs) := e
      simp only [Option.some.injEq, Prod.mk.injEq] at e2
      obtain ⟨h1, h2, h3, h4, h5, h6, h7, h8⟩ := e2
      subst h1 h2 h3 h4 h5 h6 h8
      dsimp only at b1
      split at b1
      · rename_i c nmc cc
        obtain ⟨c1, c2⟩ := Bool.and_eq_true_iff.mp b1
        obtain ⟨c2, c3⟩ := Bool.and_eq_true_iff.mp c2
        have h7 : [nmc] = [("__class__" : Str)] := h7
        injection h7 with h7 _
        subst h7
        refine ⟨oc, od, n9, n10, n11, n12, c, cc, n14, osl, rfl, c1, ?_, ?_, ?_, of_decide_eq_true b8, He.eqO_ok b9, of_decide_eq_true b10, He.eqO_ok b11, htop⟩
        · split at c2
          · rename_i ccl cdd vs ccs hc
            split at c2
            · rename_i file tf hv
              exact ⟨ccl, cdd, vs, ccs, file, tf, hc, hv, c2⟩
            · cases c2
          · cases c2
        · split at c3
          · rename_i cl cld D csl hc
            have := of_decide_eq_true c3
            subst this
            exact ⟨cl, cld, csl, hc⟩
          · cases c3
        · obtain ⟨nm, q, N, bs, bm, sn, sub, ab, col, dd, k0, k1, k2, k3, k5, hC, hbm⟩ := oex
          exact ⟨_, by unfold PySem.W.clsIn; rw [hC] <;> rfl⟩
      · cases b1
    | _ => cases b1

structure CalG (P : Program) (w : World) (K : PySem.W.Frag) (mg : Str → Option Value) (base : Heap) (k : Nat) (x : Str) (C : Addr) (sp : Sp) : Prop where
  ex : ∃ (Bb nb ib : String) (tl : List Value) (f : Addr) (fd : FuncData) (ps : List Str), OexG K C Bb nb ib tl ∧ PySem.W.findIn K (.ref C) "__init__" = some (some (.ref f)) ∧ PySem.W.typeIn K (.ref f) = some (.type "function") ∧ FnOk P w K mg base L2.CX0 k f fd ps sp ∧ Binds K fd ps [] ∧ mg x = some (.ref C)
theorem pmk_excG {X : Cx} {k j : Nat} {x : Str} {C : Addr} {sp : Sp} {e : Expr} {es : List Expr} {ta : TA} {p pos : Pos} (c : CalG X.prog X.w X.K X.mg X.base k x C sp) (hr : Room j X.A) (hk : k + 1 ≤ j) (hg : Gl X x) (ha : PA X (e :: es) ta)
    (hdb : (x == ("__debug__" : Str)) = false := by decide) (he : starEach (e :: es) X.env = (false, eval e X.env) :: starEach es X.env := by rfl) (hpl : (backTo pos (starEach es X.env)).any (·.1) = false := by rfl) :
    PMk X (.Call (.Name x p) (e :: es) [] pos) (tMkO C sp [] ta) := by
  obtain ⟨Bb, nb, ib, tl, f, fd, ps, T, iC, tI, F, b, m⟩ := c.ex
  exact pmk_oexG T iC tI F (hr.mono hk) b .nil L2.pass0 hg m ha hdb he hpl
end WP

set_option Elab.async false
set_option linter.all false
set_option maxRecDepth 100000
set_option maxHeartbeats 4000000
/-! the law's own frame knows that no text is being made (guards); repr of plain data; errors made as values -/
namespace WP
open PySem PySem.Spec PyProof.Rows L2
/-- as FnOk, for a caller in which no text is being made -/
structure FnG (P : Program) (w : World) (K : PySem.W.Frag) (mg : Str → Option Value) (base : Heap) (CX : CXT) (k : Nat) (f : Addr) (fd : FuncData) (ps : List Str) (sp : Sp) : Prop where
  len : ∀ vs H Q E, sp vs H Q E → vs.length = ps.length
  run : ∀ (A : Around) (outer : List Env) (s : Shared) (H : Hp) (args : Args) (us : List Value) (vs : List V) (Q : VK) (E : XK), A.guards = some [] → Room k A → Env0 P w K mg base A outer s H → BindsTo s fd args (ps.zip us) → Vals vs us → sp vs H Q E →
    codeAny (model P w) A (.call (.ref f) args) (CR CX outer P w H s Q E) s

/-- a def that is entered where no text is being made -/
theorem okG {P : Program} {w : World} {K : PySem.W.Frag} {mg : Str → Option Value} {base : Heap} {x qual : Str} {params : Arguments} {body : List Stmt} {scope : Scope} {dvs : List V} {kws : List (Str × V)} {f : Addr} {fd : FuncData} {CX : CXT} {N ps : List Str} {k : Nat} {sp : Sp}
    (F : FunD K x qual params body scope dvs kws f fd) (S : FnScope N ps scope) (len : ∀ vs H Q E, sp vs H Q E → vs.length = ps.length)
    (hbody : ∀ (cdv : Value) (A : Around) (outer : List Env) (s : Shared) (H : Hp) (vs : List V) (Q : VK) (E : XK), A.guards = some [] → Room k (A.deeper (envOfC qual scope s.heap.objs.size f cdv)) → sp vs H Q E →
      ∃ t, PSs (cxOf CX P w K mg base N qual scope f cdv A outer s H E) body t ∧ t { nx := fun _ H' => Q .non H', rt := Q } (start N vs) H) : FnG P w K mg base CX (k + 1) f fd ps sp := by
  obtain ⟨oc, od, dV, kV, doc, pm, an, cdv, ct, osl, rfl, lk, hcd, -, -⟩ := F.ex
  refine ⟨len, fun A outer s H args us vs Q E gd hr e0 hb r h => ?_⟩
  have here : ∀ b o, base.get? b = some o → s.heap.get? b = some o := fun b o e => (e0.bs b o e).1
  obtain ⟨t, ht, q⟩ := hbody cdv A outer s H vs Q E gd (hr.deeper _) h
  refine Att.call_fn (e0.mod.kin.keeps here) (e0.mod.nolimit.keeps here) lk hcd hr.depth hb ?_ (fun s1 x => ?_) S.co S.gen S.kind
  · refine List.all_eq_true.mpr fun y hy => ?_
    rcases S.par y.1 (List.of_mem_zip (a := y.1) (b := y.2) hy).1 with e | e <;> simp [e]
  · refine wpAny_mono (ht.run [] s1 _ H _ (inv_start S hr.hd e0 (len _ _ _ _ h) r x) q) (fun fl s' e => ?_) fun _ _ z => z
    rcases fl with _ | _ | _ | u
    · exact let ⟨_, H', J, z⟩ := e; ⟨.non, H', J.os, J.bare, J.base, J.hok, rfl, z⟩
    · exact let ⟨_, _, _, z⟩ := e; z.elim
    · exact let ⟨_, _, _, z⟩ := e; z.elim
    · exact let ⟨v, _, H', J, rv, z⟩ := e; ⟨v, H', J.os, J.bare, J.base, J.hok, rv, z⟩
/-- what is tracked when the law is called: its script, unless the program's own part holds it -/
def scriptH (K : PySem.W.Frag) (a : Addr) (o : Obj) (xs : List V) : Hp := fun b => if b = a ∧ K.lookup a = none then some (.frz o (.lst xs)) else none
theorem scriptH_some {K : PySem.W.Frag} {a b : Addr} {o : Obj} {xs : List V} {u : HO} (h : scriptH K a o xs b = some u) : b = a ∧ K.lookup a = none ∧ u = .frz o (.lst xs) := by
  unfold scriptH at h
  split at h
  · rename_i c
    exact ⟨c.1, c.2, (Option.some.inj h).symm⟩
  · cases h
theorem law_callG {P : Program} {w : World} {K : PySem.W.Frag} {mg mb : Str → Option Value} {CX : CXT} {k : Nat} {fa a : Addr} {fd : FuncData} {x : Str} {sp : Sp} {s₁ : Shared} {vs : List Value} {ns : List Int}
    (KX : K.In s₁.heap) (hns : s₁.heap.Ns mainGlobals mg) (hb : s₁.heap.Ns builtinsNs mb) (hbb : ∀ x : Str, x ≠ "__name__" → mb x = bootBuiltins x) (hlim : s₁.heap.NoLimit) (hg : s₁.gens = #[])
    (ha : s₁.heap.get? a = some { cls := .type "list", data := .seq vs.toArray }) (hi : IntsAre vs ns) (hl : ns.length ≤ sizeLine) (hr : Room k callerA)
    (F : ∀ base : Heap, K.In base → base.Ns mainGlobals mg → FnG P w K mg base CX k fa fd [x] sp) (hbind : ∀ (s : Shared) (u : Value), BindsTo s fd ⟨[u], []⟩ [(x, u)])
    (hsp : ∀ H : Hp, Only H → SqL K H a (ns.map V.int) → sp [.ref a] H (fun v _ => v = .bl true) fun _ _ _ => False)
    (hCX : ∀ H e s', CX [] H s₁ (fun _ _ _ => False) e s' → False) :
    codeAny (model P w) callerA (.call (.ref fa) ⟨[.ref a], []⟩) (fun r s' => r = .ok (.ret (.bool true)) ∧ OldK s₁.heap s'.heap ∧ s'.os = s₁.os ∧ AllBare s'.gens) s₁ := by
  have rv := vals_ints hi
  have many : vs.length ≤ sizeLine := by rw [hi.length]; exact hl
  obtain ⟨H, eH⟩ : ∃ H : Hp, H = scriptH K a { cls := .type "list", data := .seq vs.toArray } (ns.map V.int) := ⟨_, rfl⟩
  have tr : ∀ {b : Addr} {u : HO}, H b = some u → b = a ∧ K.lookup a = none ∧ u = .frz { cls := .type "list", data := .seq vs.toArray } (.lst (ns.map V.int)) := fun {b u} e => scriptH_some (by rw [← eH]; exact e)
  have only : Only H := fun b => by
    rcases e : H b with _ | u
    · exact .inl rfl
    · exact .inr ⟨_, _, congrArg some (tr e).2.2⟩
  have sq : SqL K H a (ns.map V.int) := by
    rcases e : K.lookup a with _ | o
    · exact .inl (.inr ⟨{ cls := .type "list", data := .seq vs.toArray }, by rw [eH]; exact if_pos ⟨rfl, e⟩⟩)
    · have same := (KX a o e).symm.trans ha
      cases same
      exact .inr ⟨_, vs.toArray, _, e, rfl, rfl, rfl, by rw [List.size_toArray]; exact many, by simpa using rv⟩
  have hok : HOk P w H s₁.heap := fun b u e => by
    obtain ⟨rfl, -, rfl⟩ := tr e
    exact ⟨ha, by rw [List.length_map]; exact hl, vs, _, rv, ha⟩
  -- what is not the script is not tracked
  have free : ∀ {b : Addr} {o : Obj}, s₁.heap.get? b = some o → (b = a → K.lookup a = none → False) → H b = none := fun {b o} e no => by
    rcases q : H b with _ | u
    · rfl
    · obtain ⟨h1, h2, -⟩ := tr q
      exact (no h1 h2).elim
  have ns' : ∀ {b : Addr} {m : Str → Option Value}, s₁.heap.Ns b m → (hidT s₁.heap H).Ns b m := fun {b m} ⟨o, es, ep, e, d, z⟩ => ⟨o, es, ep, hidT_get e (free e fun h _ => by
    subst h
    obtain rfl := Option.some.inj (ha.symm.trans e)
    cases d), d, z⟩
  have kin : K.In (hidT s₁.heap H) := fun b o e => hidT_get (KX b o e) (free (KX b o e) fun h n => by
    subst h
    rw [n] at e
    cases e)
  obtain ⟨mc, l1, l2⟩ := hlim
  have e0 : Env0 P w K mg (hidT s₁.heap H) callerA [] s₁ H :=
    { frames := rfl, mod := ⟨kin, ns' hns, ⟨mb, ns' hb, hbb⟩, ⟨mc, ns' l1, l2⟩⟩, bs := fun _ _ e => of_hidT e, bsz := Nat.le_of_eq (hidT_size _ _), funs := trivial, frf := fun _ h => (nomatch h), hok := hok, bare := .of_eq hg }
  refine codeAny_mono ((F _ kin (ns' hns)).run callerA [] s₁ H ⟨[.ref a], []⟩ [.ref a] [.ref a] _ _ rfl hr e0 (hbind s₁ (.ref a)) (.cons rfl .nil) (hsp H only sq)) fun res s' e => ?_
  rcases res with er | (_ | _ | _ | u)
  · exact (hCX H er s' e).elim
  · exact e.elim
  · exact e.elim
  · exact e.elim
  · obtain ⟨v, H', os, bare, un, hok', rel, rfl⟩ := e
    obtain rfl : u = Value.bool true := rel
    refine ⟨rfl, OldK.of_keep fun b o q => ?_, os, bare⟩
    rcases t : H b with _ | z
    · exact un.keep b o q t (fun h => nomatch h) (fun h => nomatch h)
    · obtain ⟨rfl, -, rfl⟩ := tr t
      obtain rfl := Option.some.inj (ha.symm.trans q)
      exact (hok' b _ (un.frzs b _ _ t)).1

theorem walk_ofG {l : PySem.W.OpenLaw} {n k : Nat} {q : Program} {loose : List Str} {XP : (Str → Option Value) → Heap → Prop} {YP : World → Heap → Prop} {d : DefRec} {CX : CXT} {x : Str}
    (hn : l.most = some n) (hn2 : n ≤ sizeLine) (hdf : d.params.defaults = []) (hr : Room k callerA)
    (F : ∀ (w : World) (mg : Str → Option Value) (fa : Addr) (h : Heap), YP w h → h.Ns mainGlobals mg → mg d.name = some (.ref fa) →
      ∃ (K : PySem.W.Frag) (fd : FuncData) (sp : Sp), K.In h ∧ (∀ (s : Shared) (u : Value), BindsTo s fd ⟨[u], []⟩ [(x, u)]) ∧
        (∀ (H : Hp) (a : Addr) (ns : List Int), ns.length ≤ n → Only H → SqL K H a (ns.map V.int) → sp [.ref a] H (fun v _ => v = .bl true) fun _ _ _ => False) ∧
        ∀ base : Heap, K.In base → base.Ns mainGlobals mg → FnG l.prog w K mg base CX k fa fd [x] sp)
    (hCX : ∀ (H : Hp) (s : Shared) (e : Value) (s' : Shared), CX [] H s (fun _ _ _ => False) e s' → False) :
    PySem.W.WalkO q loose XP YP l.row.toRowW d [] (fun f vs => PySem.call f vs) :=
  Att.attach_call hn hdf fun w _ s₁ mg _ fa _ _ _ _ a _ ns G Y _ _ _ hm ho hi hlen hg =>
    let ⟨_, _, _, kin, bind, asks, prom⟩ := F w mg fa _ Y G.T.g hm
    law_callG kin G.T.g G.T.b G.T.builtins G.T.nolimit hg ho hi (Nat.le_trans hlen hn2) hr prom bind (fun H o q => asks H a ns hlen o q) fun H e s' => hCX H s₁ e s'

/-! ### repr of plain data -/
def rRepr (K : PySem.W.Frag) : List V → Hp → VK → Prop := fun xs H Q => ∃ (v : V) (d : PyData), xs = [v] ∧ Dp K H v d ∧ d.showable = true ∧ d.hasDict = false ∧ d.depth ≤ 10 ∧ d.shown.length ≤ sizeLine ∧ Q (.str d.shown) H
theorem call_repr {X : Cx} {k : Nat} (K : PySem.W.Frag) (hg : X.A.guards = some []) (hr : Room k X.A) (hK : X.K = K := by rfl) : CallR X (.builtin "repr") (rRepr K) := by
  subst hK
  intro pins s σ H xs us Q I r h
  obtain ⟨v, d, rfl, hd, hs, hnd, hdp, hz, q⟩ := h
  obtain ⟨u, rfl, ru⟩ := vals1 r
  have hu := hr.un
  obtain ⟨as, rd⟩ := Dp.reads I d v u hd ru
  cases hd with
  | non =>
    cases ru
    exact PySem.P.repr_of_none ⟨.str _, H, I.tok _, ⟨_, rfl⟩, q⟩
  | bl b =>
    cases ru
    exact PySem.P.repr_of_bool ⟨.str _, H, I.tok _, ⟨_, rfl⟩, q⟩
  | int i =>
    obtain ⟨t, rfl⟩ := ru
    exact PySem.P.repr_of_int (by simpa [PyData.showable] using hs) ⟨.str _, H, I.tok _, ⟨_, rfl⟩, q⟩
  | str x =>
    obtain ⟨t, rfl⟩ := ru
    exact PySem.P.repr_of_str ⟨.str _, H, I.tok _, ⟨_, rfl⟩, q⟩ hz
  | lst s r =>
    cases ru
    exact repr_of_reads' rd hs (fun z => by rw [hnd] at z; cases z) hg (by omega) (fun _ _ e => e) (fun h' u tk hk => ⟨.str _, H, I.kept (t' := tk) hk, ⟨_, rfl⟩, q⟩) hz
  | tup s r =>
    cases ru
    exact repr_of_reads' rd hs (fun z => by rw [hnd] at z; cases z) hg (by omega) (fun _ _ e => e) (fun h' u tk hk => ⟨.str _, H, I.kept (t' := tk) hk, ⟨_, rfl⟩, q⟩) hz
/-! ### C(e, ..) as a value -/
def tMkV (C : Addr) (sp : Sp) (ta : TA) : TE := fun σ H Q => ta σ H fun vs H1 => vs.length ≤ 1000 ∧ ∀ a, H1 a = none → sp (.ref a :: vs) (upd H1 a (exo a C none)) (fun v H2 => v = .non ∧ Q (.ref a) H2) (fun _ _ _ => False)

theorem mkV_core {X : Cx} {k : Nat} {C : Addr} {sp : Sp} {pins : List (Addr × Obj)} {σ : L2.St} {H1 : Hp} {s1 : Shared} {us : List Value} {vs : List V} {Q : VK} {Bb nb ib : String} {tl : List Value} {fI : Addr} {fd : FuncData} {ps : List Str}
    (T : OexG X.K C Bb nb ib tl) (iC : PySem.W.findIn X.K (.ref C) "__init__" = some (some (.ref fI))) (tI : PySem.W.typeIn X.K (.ref fI) = some (.type "function")) (F1 : FnOk X.prog X.w X.K X.mg X.base L2.CX0 k fI fd ps sp) (hb : Binds X.K fd ps []) (hr : Room (k + 1) X.A)
    (I1 : Inv X pins σ H1 s1) (r1 : Vals vs us) (hz : vs.length ≤ 1000) (q1 : ∀ a, H1 a = none → sp (.ref a :: vs) (upd H1 a (exo a C none)) (fun v H2 => v = .non ∧ Q (.ref a) H2) (fun _ _ _ => False)) :
    wpAny (model X.prog X.w) X.A (call (.ref C) us) (EP X pins σ Q) X.xe s1 :=
  err_call (G := fun a H2 => Q (.ref a) H2) T iC tI F1 hr hb .nil L2.pass0 I1 r1 hz (fun a n => by rw [List.append_nil]; exact q1 a n)
    fun a h1 s' H2 _ _ J o2 b2 un ok2 z => ⟨.ref a, H2, J.call' (ch := []) o2 un ok2 b2 (fun _ h => nomatch h), rfl, z⟩

theorem pe_mkV {X : Cx} {k j : Nat} {x : Str} {C : Addr} {sp : Sp} {e : Expr} {es : List Expr} {ta : TA} {p pos : Pos} (c : CalG X.prog X.w X.K X.mg X.base k x C sp) (hr : Room j X.A) (hk : k + 1 ≤ j) (hg : Gl X x) (ha : PA X (e :: es) ta)
    (hdb : (x == ("__debug__" : Str)) = false := by decide) (he : starEach (e :: es) X.env = (false, eval e X.env) :: starEach es X.env := by rfl) (hpl : (backTo pos (starEach es X.env)).any (·.1) = false := by rfl) :
    PE X (.Call (.Name x p) (e :: es) [] pos) (tMkV C sp ta) := by
  obtain ⟨Bb, nb, ib, tl, f, fd, ps, T, iC, tI, F, b, m⟩ := c.ex
  refine ⟨fun pins s σ H Q I h => ?_⟩
  refine wpAny_Call_Name_kw (ld_glob I hg m ?_ hdb)
  refine PySem.W.callWith_K (h₀ := X.base) I.ok.mod.kin T.kC (thn (ha.run pos pins s σ H _ I h) fun us s1 ⟨vs, H1, I1, r1, hz, q1⟩ => ⟨I1.kIn, ?_⟩) he hpl
  exact mkV_core T iC tI F b (hr.mono hk) I1 r1 hz q1
theorem pe_mkV0 {X : Cx} {k j : Nat} {x : Str} {C : Addr} {sp : Sp} {p pos : Pos} (c : CalG X.prog X.w X.K X.mg X.base k x C sp) (hr : Room j X.A) (hk : k + 1 ≤ j) (hg : Gl X x)
    (hdb : (x == ("__debug__" : Str)) = false := by decide) : PE X (.Call (.Name x p) [] [] pos) (tMkV C sp tNil) := by
  obtain ⟨Bb, nb, ib, tl, f, fd, ps, T, iC, tI, F, b, m⟩ := c.ex
  refine ⟨fun pins s σ H Q I h => ?_⟩
  refine wpAny_Call_Name_kw (ld_glob I hg m ?_ hdb)
  exact PySem.W.callWith_K0 I.kIn T.kC (mkV_core T iC tI F b (hr.mono hk) I .nil h.1 h.2)
theorem r_mkV {C : Addr} {sp : Sp} {ta : TA} {σ : L2.St} {H : Hp} {Q : VK} (q : ta σ H fun vs H1 => vs.length ≤ 1000 ∧ ∀ a, H1 a = none → sp (.ref a :: vs) (upd H1 a (exo a C none)) (fun v H2 => v = .non ∧ Q (.ref a) H2) (fun _ _ _ => False)) : tMkV C sp ta σ H Q := q
/-! ### its fields, its classes -/
section
variable {X : Cx} {pins : List (Addr × Obj)} {σ : L2.St} {H : Hp} {s : Shared}
theorem exo_inst {a C d : Addr} {fs : List (Str × V)} (I : Inv X pins σ H s) (ha : H a = some (exo a C (some d))) (hd : H d = some (exd d fs)) : ∃ (oe od : Obj) (mA : Str → Option Value), PySem.W.InstAt s.heap a oe C (some od) ∧ (∀ f, PySem.W.lookIn f od = some (mA f)) ∧ ∀ f, RelO (fs.lookup f) (mA f) := by
  obtain ⟨t1, h1⟩ := exo_at I.hok ha
  obtain ⟨mA, hns, hr⟩ := exd_at I.hok hd
  obtain ⟨od, ho, hl⟩ := lookIn_ns hns
  exact ⟨_, od, mA, ⟨h1, rfl, rfl, ho⟩, hl, hr⟩
/-- an error at a, of the class C, perhaps with fields -/
def ErrAt (H : Hp) (a C : Addr) : Prop := H a = some (exo a C none) ∨ ∃ (d : Addr) (fs : List (Str × V)), H a = some (exo a C (some d)) ∧ H d = some (exd d fs)
theorem ErrAt.mono {H' : Hp} {a C : Addr} (e : Evl.Ex H H') (h : ErrAt H a C) : ErrAt H' a C := by
  rcases h with h | ⟨d, fs, h1, h2⟩
  · exact .inl (e _ _ h)
  · exact .inr ⟨d, fs, e _ _ h1, e _ _ h2⟩
theorem err_inst {a C : Addr} (I : Inv X pins σ H s) (h : ErrAt H a C) : ∃ (oe : Obj) (od : Option Obj), PySem.W.InstAt s.heap a oe C od := by
  rcases h with h | ⟨d, fs, h1, h2⟩
  · obtain ⟨t1, h1⟩ := exo_at I.hok h
    exact ⟨_, none, ⟨h1, rfl, rfl, trivial⟩⟩
  · obtain ⟨oe, od, mA, J, _, _⟩ := exo_inst I h1 h2
    exact ⟨oe, some od, J⟩
def tXo (K : PySem.W.Frag) (n : Str) (te : TE) : TE := fun σ H Q => te σ H fun x H1 => ∃ (a C d : Addr) (fs : List (Str × V)) (v : V), x = .ref a ∧ H1 a = some (exo a C (some d)) ∧ H1 d = some (exd d fs) ∧ XfC K C ∧ PySem.W.findIn K (.ref C) n = some none ∧ fs.lookup n = some v ∧ Q v H1
theorem pe_xo (K : PySem.W.Frag) {e : Expr} {te : TE} {pos : Pos} {n : Str} (he : PE X e te) (hb : attributeBase e n X.env (eval e X.env) = eval e X.env := by rfl) (hK : X.K = K := by rfl) : PE X (.Attribute e n pos) (tXo K n te) := by
  subst hK
  refine ⟨fun pins s σ H Q I h => ?_⟩
  refine attr_of hb (thn (he.run pins s σ H _ I h) fun u s1 hh => ?_)
  obtain ⟨x, H1, I1, rx, a, C, d, fs, v, ex, ha, hd, T, hno, l, q⟩ := hh
  subst ex
  obtain rfl : u = Value.ref a := rx
  obtain ⟨oe, od, mA, J, hl, hr⟩ := exo_inst I1 ha hd
  obtain ⟨u, hu, ru⟩ := RelO.some_of (v := v) (o := mA n) (by rw [← l]; exact hr n)
  exact HandSPX.exc_get I1.kIn J T.ga T.gg T.exC (PySem.W.findObj_own T.hdC hno rfl (by rw [hl, hu])) (handed_of ru) ⟨v, H1, I1.tok _, ru, q⟩
theorem r_xo {K : PySem.W.Frag} {n : Str} {te : TE} {σ : L2.St} {H : Hp} {Q : VK} (q : te σ H fun x H1 => ∃ (a C d : Addr) (fs : List (Str × V)) (v : V), x = .ref a ∧ H1 a = some (exo a C (some d)) ∧ H1 d = some (exd d fs) ∧ XfC K C ∧ PySem.W.findIn K (.ref C) n = some none ∧ fs.lookup n = some v ∧ Q v H1) : tXo K n te σ H Q := q
end
def rIsO (K : PySem.W.Frag) : List V → Hp → VK → Prop := fun xs H Q => ∃ (a D : Addr) (c : V) (u : Value) (b : Bool), xs = [.ref a, c] ∧ ErrAt H a D ∧ ExcC K D ∧ ClsV c u ∧ PySem.W.kitOne K (.ref D) u = some b ∧ Q (.bl b) H
theorem call_isO {X : Cx} (K : PySem.W.Frag) (hK : X.K = K := by rfl) : CallR X (.builtin "isinstance") (rIsO K) := by
  subst hK
  intro pins s σ H xs us Q I r h
  obtain ⟨a, D, c, u, b, rfl, ha, C, k, e, q⟩ := h
  obtain ⟨u1, u2, rfl, r1, r2⟩ := vals2 r
  cases r1
  have e2 := k.eq r2
  subst e2
  obtain ⟨oe, od, J⟩ := err_inst I ha
  exact PySem.W.kia_one (kit_err C) I.kIn J e (fun z => nomatch z) fun tk => ⟨.bl b, H, I.tok tk, rfl, q⟩
end WP

set_option Elab.async false
set_option linter.all false
set_option maxRecDepth 100000
set_option maxHeartbeats 4000000
/-! a second field of an own error over any base; data whose text is short -/
namespace WP
open PySem PySem.Spec PyProof.Rows L2

def tOst2 (K : PySem.W.Frag) (Bb nb ib : String) (tl : List Value) (f : Str) (to te : TE) : TS := fun D σ H => te σ H fun y H1 => to σ H1 fun x H2 => ∃ (a C dx : Addr) (fs : List (Str × V)), x = .ref a ∧ OexG K C Bb nb ib tl ∧ PySem.W.findIn K (.ref C) f = some none ∧
  H2 a = some (exo a C (some dx)) ∧ H2 dx = some (exd dx fs) ∧ fs.length ≤ 900 ∧ D.nx σ (upd H2 dx (exd dx ((f, y) :: fs)))
theorem ps_ost2 {X : Cx} {o e : Expr} {to te : TE} {f : Str} {p' pos : Pos} {Bb nb ib : String} {tl : List Value} (ho : PE X o to) (he : PE X e te) (hs : swapsWith e (some (.Attribute o f p')) pos.line X.env = pure false := by rfl) : PS X (.Assign [.Attribute o f p'] e pos) (tOst2 X.K Bb nb ib tl f to te) := by
  refine ⟨fun pins s σ H D I h => ?_⟩
  refine plainObj_wpAny_Assign_Attribute (thn (he.run pins s σ H _ I h) fun v s1 ⟨y, H1, I1, r1, q1⟩ => thn (ho.run pins s1 σ H1 _ I1 q1) fun u s2 ⟨x, H2, I2, r2, a, C, dx, fs, ex, T, hno, ea, ed, hl, q⟩ => ?_) hs
  subst ex
  obtain rfl : u = Value.ref a := r2
  exact ost_oldG T I2 ea ed hl hno r1 fun s' J => ⟨σ, _, J, q⟩
/-! ### data whose text is short -/
def cap : Nat → Nat
  | 0 => 2000
  | n + 1 => 4 * cap n + 20
theorem cap_up : ∀ n : Nat, cap n ≤ cap (n + 1) := fun n => by show cap n ≤ 4 * cap n + 20; omega
theorem cap_le {m n : Nat} (h : m ≤ n) : cap m ≤ cap n := by
  induction h with
  | refl => exact Nat.le_refl _
  | step _ ih => exact Nat.le_trans ih (cap_up _)
/-- plain data, at most so deep, with a text that is not long -/
def Dw (K : PySem.W.Frag) (H : Hp) (m : Nat) (v : V) : Prop := ∃ d, Dp K H v d ∧ fit d = true ∧ d.depth ≤ m ∧ d.showable = true ∧ d.hasDict = false ∧ d.shown.length ≤ cap m
theorem Dw.mono {K : PySem.W.Frag} {H H' : Hp} {m n : Nat} {v : V} (e : Evl.Ex H H') (h : m ≤ n) (d : Dw K H m v) : Dw K H' n v := by
  obtain ⟨d, h1, h2, h3, h4, h5, h6⟩ := d
  exact ⟨d, Dp.mono e h1, h2, Nat.le_trans h3 h, h4, h5, Nat.le_trans h6 (cap_le h)⟩
theorem cap0 (m : Nat) : 2000 ≤ cap m := cap_le (m := 0) (Nat.zero_le m)
section
variable {K : PySem.W.Frag} {H : Hp} {m : Nat}
theorem dw_non : Dw K H m .non := ⟨_, .non, by rw [fit], by simp [PyData.depth], by simp [PyData.showable], by simp [PyData.hasDict], by have := cap0 m; rw [PyData.shown]; show 4 ≤ _; omega⟩
theorem dw_bl {b : Bool} : Dw K H m (.bl b) := ⟨_, .bl b, by rw [fit], by simp [PyData.depth], by simp [PyData.showable], by simp [PyData.hasDict], by have := cap0 m; rw [PyData.shown]; exact Nat.le_trans (by cases b <;> decide +kernel : _ ≤ 5) (by omega)⟩
theorem dw_int {i : Int} (h : i.natAbs < 2 ^ 200) : Dw K H m (.int i) := by
  have hl : i.natAbs.log2 < 200 := by
    by_cases h0 : i.natAbs = 0
    · rw [h0]; decide
    · exact (Nat.log2_lt h0).mpr h
  refine ⟨_, .int i, by rw [fit], by simp [PyData.depth], by rw [PyData.showable]; exact decide_eq_true (by omega), by simp [PyData.hasDict], ?_⟩
  have := cap0 m
  have e := int_text_length_le (a := i) (k := 200) (by decide) hl
  rw [PyData.shown]
  show (Str.ofString (toString i)).length ≤ _
  rw [PySem.ofString_length]
  omega
theorem dw_str {z : Str} (h1 : z.length ≤ 100) (h2 : PyData.strOk z = true) : Dw K H m (.str z) := by
  refine ⟨_, .str z, by rw [fit, h2, Bool.and_true]; exact decide_eq_true (by omega), by simp [PyData.depth], by simp [PyData.showable], by simp [PyData.hasDict], ?_⟩
  have := cap0 m
  have e := PySem.StrLaws.reprText_len z (fun c hc => by
    have := Array.all_eq_true'.mp h2 c (Array.mem_toList_iff.mp hc)
    have := of_decide_eq_true this
    omega)
  rw [PyData.shown]
  omega
theorem dwAll : ∀ {xs : List V}, (∀ v ∈ xs, Dw K H m v) → ∃ ds, DpAll K H xs ds ∧ fitAll ds = true ∧ PyData.depthAll ds ≤ m ∧ PyData.showableAll ds = true ∧ PyData.hasDictAll ds = false ∧ ((PyData.shownAll ds).map (·.length)).sum ≤ xs.length * cap m ∧ (PyData.shownAll ds).length = xs.length
  | [], _ => ⟨[], .nil, by rw [fitAll], by simp [PyData.depthAll], by simp [PyData.showableAll], by simp [PyData.hasDictAll], by simp [PyData.shownAll], by simp [PyData.shownAll]⟩
  | v :: r, h => by
    obtain ⟨d, h1, h2, h3, h4, h5, h6⟩ := h v (List.mem_cons_self ..)
    obtain ⟨ds, k1, k2, k3, k4, k5, k6, k7⟩ := dwAll (xs := r) fun u hu => h u (List.mem_cons_of_mem _ hu)
    refine ⟨d :: ds, .cons h1 k1, by rw [fitAll, h2, k2]; rfl, ?_, by rw [PyData.showableAll, h4, k4]; rfl, by rw [PyData.hasDictAll, h5, k5]; rfl, ?_, by rw [PyData.shownAll, List.length_cons, List.length_cons, k7]⟩
    · rw [PyData.depthAll]
      omega
    · rw [PyData.shownAll, List.map_cons, List.sum_cons, List.length_cons, Nat.succ_mul]
      omega
theorem tupleText_len (ts : List Str) : (tupleText ts).length ≤ (ts.map (·.length)).sum + 2 * ts.length + 3 := by
  have e := listText_len_le ts
  rw [listText_eq_join] at e
  unfold tupleText
  rw [strLen_append, strLen_append] at e ⊢
  have e1 : (("[" : String) : Str).length = 1 := rfl
  have e2 : (("]" : String) : Str).length = 1 := rfl
  have e3 : (("(" : String) : Str).length = 1 := rfl
  rw [e1, e2] at e
  rw [e3]
  cases ts with
  | nil => simp [Str.join] ; decide
  | cons x r => cases r with
    | nil =>
      have : (Str.join ", " [x]) = x := by first | rfl | simp [Str.join]
      rw [this]
      simp
      first | omega | (show 1 + x.length + 2 ≤ _; omega)
    | cons y r =>
      have : ((x :: y :: r).length == 1) = false := by simp
      rw [this]
      have e4 : ((if false = true then ",)" else ")" : String) : Str).length = 1 := rfl
      first
        | (rw [e4]; omega)
        | (simp only [Bool.false_eq_true, if_false]; show _ + 1 ≤ _; omega)
theorem dw_lst {a : Addr} {xs : List V} (s : SqL K H a xs) (h : ∀ v ∈ xs, Dw K H m v) (hl : xs.length ≤ 4) : Dw K H (m + 1) (.ref a) := by
  obtain ⟨ds, k1, k2, k3, k4, k5, k6, k7⟩ := dwAll h
  refine ⟨.list ds, .lst s k1, by rw [fit, k2, Bool.and_true, ← DpAll.length k1]; exact decide_eq_true (by omega), by rw [PyData.depth]; omega, by rw [PyData.showable]; exact k4, by rw [PyData.hasDict]; exact k5, ?_⟩
  have e := listText_len_le (PyData.shownAll ds)
  have e2 : xs.length * cap m ≤ 4 * cap m := Nat.mul_le_mul_right _ hl
  rw [PyData.shown]
  show _ ≤ 4 * cap m + 20
  omega
theorem dw_tup {a : Addr} {xs : List V} (s : SqT K H a xs) (h : ∀ v ∈ xs, Dw K H m v) (hl : xs.length ≤ 4) : Dw K H (m + 1) (.ref a) := by
  obtain ⟨ds, k1, k2, k3, k4, k5, k6, k7⟩ := dwAll h
  refine ⟨.tuple ds, .tup s k1, by rw [fit, k2, Bool.and_true, ← DpAll.length k1]; exact decide_eq_true (by omega), by rw [PyData.depth]; omega, by rw [PyData.showable]; exact k4, by rw [PyData.hasDict]; exact k5, ?_⟩
  have e := tupleText_len (PyData.shownAll ds)
  have e2 : xs.length * cap m ≤ 4 * cap m := Nat.mul_le_mul_right _ hl
  rw [PyData.shown]
  show _ ≤ 4 * cap m + 20
  omega
end
end WP

set_option Elab.async false
set_option linter.all false
set_option maxRecDepth 100000
set_option maxHeartbeats 1000000
/-! the errors of the package as values: their promises, their tables of classes; a comprehension over a range that computes a function -/
namespace WP
open PySem PySem.Spec PyProof.Rows L2
theorem lc_fun {m : Nat} {H2 : Hp} {L : Addr} {te : TE} {j : Nat} {vs : List Nat} {σ : L2.St} {Qd : Hp → Prop} (hL : H2 L = none) (hm : m ≤ 1000000) (f : Nat → V)
    (hw : ∀ x, wipe ((wipe σ vs).set j (some x)) vs = wipe σ vs)
    (hel : ∀ i H', i < m → Evl.Ex H2 H' → ∀ Q' : VK, (∀ H'', Evl.Ex H' H'' → Q' (f i) H'') → te ((wipe σ vs).set j (some (.int (0 + (i : Nat))))) H' Q')
    (q : ∀ H', Evl.Ex H2 H' → H' L = some (.lst ((List.range m).map f)) → Qd H') :
    ∃ W : Nat → Nat → Hp → Prop, (∃ m, W 0 m (upd H2 L (.lst []))) ∧ ∀ i k H, W i k H →
      ((Itr 0 m).stop i H ∧ Qd H) ∨ ((Itr 0 m).go i H ∧ ∃ Nx : Hp → Prop, (∀ H', Nx H' → ∃ m', m' < k ∧ W (i + 1) m' H') ∧ ∀ x H', (Itr 0 m).yld i H x H' → gName j x (wipe σ vs) H' fun σ2 H2 => wipe σ2 vs = wipe σ vs ∧ tYes σ2 H2 fun b H3 =>
        if b = true then te σ2 H3 fun y H4 => ∃ acc, H4 L = some (.lst acc) ∧ acc.length < sizeLine ∧ Nx (upd H4 L (.lst (acc ++ [y]))) else Nx H3) := by
  refine lc_range (lo := 0) (n := m) (fun i H' => H' L = some (.lst ((List.range i).map f)) ∧ Evl.Ex H2 H') ?_ ?_ ?_
  · exact ⟨upd_same, Evl.Ex.new hL⟩
  · rintro i H' hi ⟨h1, e1⟩
    refine ⟨hw _, r_yes (iteT ?_)⟩
    refine hel i H' hi e1 _ fun H3 e2 => ?_
    refine ⟨_, e2 _ _ h1, by rw [List.length_map, List.length_range, sizeLine_eq]; omega, ?_, Evl.Ex.mut (e1.trans e2) hL⟩
    rw [upd_same, List.range_succ, List.map_append]
    rfl
  · rintro H' ⟨h1, e1⟩
    exact q H' e1 h1
theorem fnokG_of {P : Program} {w : World} {K : PySem.W.Frag} {mg : Str → Option Value} {base : Heap} {x : Str} {st : Stmt} {f : Addr} {fd : FuncData} {N ps : List Str} {k : Nat} {sp : Sp} (F : FunD K x x (defArgs st) (defBody st) (defScope st) [] [] f fd) (S : FnScope N ps (defScope st)) (len : ∀ vs H Q E, sp vs H Q E → vs.length = ps.length)
    (hbody : ∀ (cdv : Value) (A : Around) (outer : List Env) (s : Shared) (H : Hp) (vs : List V) (Q : VK) (E : XK), A.guards = some [] → Room k (A.deeper (envOfC x (defScope st) s.heap.objs.size f cdv)) → sp vs H Q E →
      ∃ t, PSs (cxOf L2.CX0 P w K mg base N x (defScope st) f cdv A outer s H E).nox (defBody st) t ∧ t { nx := fun _ H' => Q .non H', rt := Q } (start N vs) H) : FnG P w K mg base L2.CX0 (k + 1) f fd ps sp := by
  refine okG F S len fun cdv A outer s H vs Q E hg hr hsp => ?_
  obtain ⟨t, h, q⟩ := hbody cdv A outer s H vs Q E hg hr hsp
  exact ⟨t, h.nox, q⟩
/-! ### the promises of the __init__s -/
def spInit0 (K : PySem.W.Frag) (C : Addr) : Sp := fun vs H Q _ => ∃ a : Addr, vs = [.ref a] ∧ H a = some (exo a C none) ∧ Q .non H
def spInit2 (f g : Str) (K : PySem.W.Frag) (C : Addr) : Sp := fun vs H Q _ => ∃ (a : Addr) (v u : V), vs = [.ref a, v, u] ∧ H a = some (exo a C none) ∧ ∀ dx, H dx = none → dx ≠ a → Q .non (upd (upd (upd H dx (exd dx [(f, v)])) a (exo a C (some dx))) dx (exd dx [(g, u), (f, v)]))
/-- an error at a of the class C with these fields -/
def ErrF (H : Hp) (a C : Addr) (fs : List (Str × V)) : Prop := ∃ d : Addr, H a = some (exo a C (some d)) ∧ H d = some (exd d fs)
theorem ErrF.mono {H H' : Hp} {a C : Addr} {fs : List (Str × V)} (e : Evl.Ex H H') (h : ErrF H a C fs) : ErrF H' a C fs := by
  obtain ⟨d, h1, h2⟩ := h
  exact ⟨d, e _ _ h1, e _ _ h2⟩
theorem ErrF.at {H : Hp} {a C : Addr} {fs : List (Str × V)} (h : ErrF H a C fs) : ErrAt H a C := by
  obtain ⟨d, h1, h2⟩ := h
  exact .inr ⟨d, fs, h1, h2⟩
theorem mkv0 {K : PySem.W.Frag} {C : Addr} {H1 : Hp} {Q : Addr → Hp → Prop} (q : ∀ a H2, ErrAt H2 a C → Evl.Ex H1 H2 → Q a H2) :
    ([] : List V).length ≤ 1000 ∧ ∀ a, H1 a = none → spInit0 K C (.ref a :: []) (upd H1 a (exo a C none)) (fun v H2 => v = .non ∧ Q a H2) (fun _ _ _ => False) :=
  ⟨by simp, fun a ha => ⟨a, rfl, upd_same, rfl, q a _ (.inl upd_same) (Evl.Ex.new ha)⟩⟩
theorem mkv1 {K : PySem.W.Frag} {C : Addr} {f : Str} {v : V} {H1 : Hp} {Q : Addr → Hp → Prop} (q : ∀ a H2, ErrF H2 a C [(f, v)] → Evl.Ex H1 H2 → Q a H2) :
    [v].length ≤ 1000 ∧ ∀ a, H1 a = none → spInit1 f K C (.ref a :: [v]) (upd H1 a (exo a C none)) (fun v H2 => v = .non ∧ Q a H2) (fun _ _ _ => False) := by
  refine ⟨by simp, fun a ha => ⟨a, v, rfl, upd_same, fun dx hdx hne => ⟨rfl, q a _ ⟨dx, upd_same, by rw [upd_ne hne, upd_same]⟩ fun b o hb => ?_⟩⟩⟩
  rw [upd_ne hne] at hdx
  rw [upd_ne (ne_of_none hb ha), upd_ne (ne_of_none hb hdx), upd_ne (ne_of_none hb ha)]
  exact hb
theorem mkv2 {K : PySem.W.Frag} {C : Addr} {f g : Str} {v u : V} {H1 : Hp} {Q : Addr → Hp → Prop} (q : ∀ a H2, ErrF H2 a C [(g, u), (f, v)] → Evl.Ex H1 H2 → Q a H2) :
    [v, u].length ≤ 1000 ∧ ∀ a, H1 a = none → spInit2 f g K C (.ref a :: [v, u]) (upd H1 a (exo a C none)) (fun v H2 => v = .non ∧ Q a H2) (fun _ _ _ => False) := by
  refine ⟨by simp, fun a ha => ⟨a, v, u, rfl, upd_same, fun dx hdx hne => ⟨rfl, q a _ ⟨dx, by rw [upd_ne hne.symm, upd_same], upd_same⟩ fun b o hb => ?_⟩⟩⟩
  rw [upd_ne hne] at hdx
  rw [upd_ne (ne_of_none hb hdx), upd_ne (ne_of_none hb ha), upd_ne (ne_of_none hb hdx), upd_ne (ne_of_none hb ha)]
  exact hb
/-! ### the tables -/
def names14 : List Str := ["BadFamily", "BadCall", "BadTest", "BadPart", "BadSuite", "OtherFamily", "BadDemand", "BadDeed", "NoClass", "NoCall", "NoTest", "NoCheck", "NothingToUndo", "Raised"]
def lowV (i : Nat) : Bool := decide (i < 8)
def midL (i : Nat) : Bool := decide (8 ≤ i) && decide (i < 13)
def topR (i : Nat) : Bool := decide (i = 13)
def bases7 (i : Nat) : List Bool := [lowV i, lowV i, midL i, topR i, false, false, false]
abbrev nm14 (i : Nat) : Str := names14.getD i ""
def bs7 (K : PySem.W.Frag) : List Value := [.ref (He.ga K "WhatpassesError"), .type "ValueError", .type "LookupError", .type "RuntimeError", .type "KeyError", .type "IndexError", .type "NotImplementedError"]
def errB (K : PySem.W.Frag) (D : Addr) : Bool := decide (PySem.W.findIn K (.ref D) "__class__" = some (some (.builtin "object.__class__"))) && (decide (PySem.W.specialIn K (.builtin "object.__class__") "__get__" = some (some (.builtin "getset_descriptor.__get__"))) && (decide (PySem.W.takesIn K (.builtin "object.__class__") = some true) && decide (PySem.W.mroIn K D (.type "object") = some true)))
theorem errB_ok {K : PySem.W.Frag} {D : Addr} (T : XfC K D) (h : errB K D = true) : ExcC K D := by
  unfold errB at h
  obtain ⟨h1, h⟩ := Bool.and_eq_true_iff.mp h
  obtain ⟨h2, h⟩ := Bool.and_eq_true_iff.mp h
  obtain ⟨h3, h4⟩ := Bool.and_eq_true_iff.mp h
  exact ⟨T.ga, T.gg, T.exC, T.hdC, of_decide_eq_true h1, of_decide_eq_true h2, of_decide_eq_true h3, of_decide_eq_true h4⟩
def tabB (K : PySem.W.Frag) : Bool := (List.range 14).all fun i => xfB K (He.ga K (nm14 i)) && (errB K (He.ga K (nm14 i)) && (((List.range 14).all fun j => decide (PySem.W.kitOne K (.ref (He.ga K (nm14 i))) (.ref (He.ga K (nm14 j))) = some (decide (j = i)))) &&
  ((List.range 7).all fun j => decide (PySem.W.kitOne K (.ref (He.ga K (nm14 i))) ((bs7 K).getD j .none) = some ((bases7 i).getD j false)))))
/-- the tables hold -/
structure Tab (K : PySem.W.Frag) : Prop where
  xf : ∀ i, i < 14 → XfC K (He.ga K (nm14 i))
  ec : ∀ i, i < 14 → ExcC K (He.ga K (nm14 i))
  own : ∀ i j, i < 14 → j < 14 → PySem.W.kitOne K (.ref (He.ga K (nm14 i))) (.ref (He.ga K (nm14 j))) = some (decide (j = i))
  bas : ∀ i j, i < 14 → j < 7 → PySem.W.kitOne K (.ref (He.ga K (nm14 i))) ((bs7 K).getD j .none) = some ((bases7 i).getD j false)
theorem tab_of {K : PySem.W.Frag} (h : tabB K = true) : Tab K := by
  have key : ∀ i, i < 14 → XfC K (He.ga K (nm14 i)) ∧ ExcC K (He.ga K (nm14 i)) ∧ (∀ j, j < 14 → PySem.W.kitOne K (.ref (He.ga K (nm14 i))) (.ref (He.ga K (nm14 j))) = some (decide (j = i))) ∧ ∀ j, j < 7 → PySem.W.kitOne K (.ref (He.ga K (nm14 i))) ((bs7 K).getD j .none) = some ((bases7 i).getD j false) := fun i hi => by
    have q := List.all_eq_true.mp h i (List.mem_range.mpr hi)
    obtain ⟨q1, q⟩ := Bool.and_eq_true_iff.mp q
    obtain ⟨q2, q⟩ := Bool.and_eq_true_iff.mp q
    obtain ⟨q3, q4⟩ := Bool.and_eq_true_iff.mp q
    have xf := xfB_ok q1
    exact ⟨xf, errB_ok xf q2, fun j hj => of_decide_eq_true (List.all_eq_true.mp q3 j (List.mem_range.mpr hj)), fun j hj => of_decide_eq_true (List.all_eq_true.mp q4 j (List.mem_range.mpr hj))⟩
  exact ⟨fun i hi => (key i hi).1, fun i hi => (key i hi).2.1, fun i j hi hj => (key i hi).2.2.1 j hj, fun i j hi hj => (key i hi).2.2.2 j hj⟩
/-- a def of one error that tells bools of it, in a list -/
def spTell (K : PySem.W.Frag) (f : Nat → List Bool) : Sp := fun vs H Q _ => ∃ (a : Addr) (i : Nat), vs = [.ref a] ∧ i < 14 ∧ ErrAt H a (He.ga K (nm14 i)) ∧ ∀ L H', Evl.Ex H H' → H' L = some (.lst ((f i).map V.bl)) → Q (.ref L) H'
theorem dp_bools {K : PySem.W.Frag} {H : Hp} : ∀ bs : List Bool, DpAll K H (bs.map V.bl) (bs.map PyData.bool)
  | [] => .nil
  | b :: r => .cons (.bl b) (dp_bools r)
theorem shaped_bools : ∀ bs : List Bool, fitAll (bs.map PyData.bool) = true
  | [] => by rw [List.map_nil, fitAll]
  | b :: r => by rw [List.map_cons, fitAll, shaped_bools r, fit]; rfl
end WP

set_option Elab.async false
set_option linter.all false
set_option maxRecDepth 100000
set_option maxHeartbeats 4000000
namespace WP
open PySem PySem.Spec PyProof.Rows L2
local macro_rules | `(tactic| walk_at "rd") => `(tactic| repeat (first
  | with_reducible refine r_seq ?_ | with_reducible refine r_fld ?_ | with_reducible refine r_fldS ?_ | with_reducible refine r_meth ?_ | with_reducible refine r_methX ?_ | with_reducible refine r_make ?_ | with_reducible refine r_makeS ?_ | with_reducible refine r_addOS ?_ | with_reducible refine r_dgetT ?_ | with_reducible refine r_dputT ?_ | with_reducible refine r_dget2T ?_ | with_reducible refine r_starT ?_ | with_reducible refine r_statT ?_ | with_reducible refine r_par3 ?_ | with_reducible refine r_callR ?_ | with_reducible refine r_callS ?_ | with_reducible refine r_mkO ?_ | with_reducible refine r_raise ?_ | with_reducible refine r_callW ?_ | with_reducible refine r_tru ?_ | with_reducible refine r_var rfl ?_ | with_reducible refine r_c ?_ | with_reducible refine r_op ?_ | with_reducible refine r_cons ?_ | with_reducible refine r_nil ?_
  | with_reducible refine r_cb ?_ | with_reducible refine r_call ?_ | with_reducible refine r_test ?_ | with_reducible refine r_B ?_ | with_reducible refine r_bl ?_ | with_reducible refine r_asg ?_ | with_reducible refine r_asgS ?_
  | with_reducible refine r_ret ?_ | with_reducible refine r_drop ?_ | with_reducible refine r_ifS ?_ | with_reducible refine r_if ?_ | with_reducible refine r_and ?_ | with_reducible refine r_or ?_ | with_reducible refine r_not ?_
  | with_reducible refine r_andV ?_ | with_reducible refine r_orV ?_ | with_reducible refine r_notV ?_ | with_reducible refine r_chain ?_ | with_reducible refine r_sl ?_ | with_reducible refine r_nopart ?_ | with_reducible refine r_part ?_ | with_reducible refine r_partN ?_ | with_reducible refine r_xv ?_ | with_reducible refine r_xo ?_ | with_reducible refine r_mkV ?_
  | with_reducible refine r_intO ?_ | with_reducible refine r_two ?_ | with_reducible refine r_m1 ?_ | with_reducible refine r_bm ?_ | with_reducible refine r_next ?_ | with_reducible refine r_gCons ?_ | with_reducible refine r_gNil ?_ | with_reducible refine r_asgT ?_ | with_reducible refine r_for ?_ | with_reducible refine r_rng1 ?_ | with_reducible refine r_iList ?_ | with_reducible refine r_iAny ?_ | with_reducible refine r_lc ?_ | with_reducible refine r_yes ?_ | with_reducible refine r_gN ?_ | with_reducible refine r_par ?_ | with_reducible refine r_un ?_ | with_reducible refine r_brk ?_ | with_reducible refine r_cont ?_
  | with_reducible refine r_I0 ?_ | with_reducible refine r_U ?_ | with_reducible refine r_addI ?_ | with_reducible refine r_abs ?_ | with_reducible refine r_intI ?_ | with_reducible refine r_max2 ?_ | with_reducible refine r_min2 ?_
  | with_reducible refine r_ltI ?_ | with_reducible refine r_leI ?_ | with_reducible refine r_gtI ?_ | with_reducible refine r_geI ?_ | with_reducible refine r_isN_non ?_ | with_reducible refine r_isN_int ?_ | with_reducible refine r_isN_str ?_ | with_reducible refine r_isN_bl ?_ | with_reducible refine r_isN_ref ?_ | with_reducible refine r_isN ?_ | with_reducible refine r_isB ?_ | with_reducible refine r_isnotN_non ?_ | with_reducible refine r_isnotN_int ?_ | with_reducible refine r_isnotN_str ?_ | with_reducible refine r_isnotN_bl ?_ | with_reducible refine r_isnotN_ref ?_ | with_reducible refine r_isnotN ?_ | with_reducible refine r_isnotB ?_
  | with_reducible refine r_inS ?_ | with_reducible refine r_eqS rfl ?_ | with_reducible refine r_neS rfl ?_ | with_reducible refine r_lst ?_ | with_reducible refine r_tup ?_ | with_reducible refine iteT ?_ | with_reducible refine iteF ?_))
local macro_rules | `(tactic| walk_at "isi") => `(tactic| (first
  | with_reducible refine r_isi_non_int ?_
  | with_reducible refine r_isi_non_str ?_
  | with_reducible refine r_isi_non_list ?_
  | with_reducible refine r_isi_non_tuple ?_
  | with_reducible refine r_isi_non_bool ?_
  | with_reducible refine r_isi_bl_int ?_
  | with_reducible refine r_isi_bl_str ?_
  | with_reducible refine r_isi_bl_list ?_
  | with_reducible refine r_isi_bl_tuple ?_
  | with_reducible refine r_isi_bl_bool ?_
  | with_reducible refine r_isi_int_int ?_
  | with_reducible refine r_isi_int_str ?_
  | with_reducible refine r_isi_int_list ?_
  | with_reducible refine r_isi_int_tuple ?_
  | with_reducible refine r_isi_int_bool ?_
  | with_reducible refine r_isi_str_int ?_
  | with_reducible refine r_isi_str_str ?_
  | with_reducible refine r_isi_str_list ?_
  | with_reducible refine r_isi_str_tuple ?_
  | with_reducible refine r_isi_str_bool ?_
  | with_reducible refine r_isi_lst_int (SqL.of (by assumption)) ?_
  | with_reducible refine r_isi_lst_str (SqL.of (by assumption)) ?_
  | with_reducible refine r_isi_lst_list (SqL.of (by assumption)) ?_
  | with_reducible refine r_isi_lst_tuple (SqL.of (by assumption)) ?_
  | with_reducible refine r_isi_lst_bool (SqL.of (by assumption)) ?_
  | with_reducible refine r_isi_tup_int (SqT.of (by assumption)) ?_
  | with_reducible refine r_isi_tup_str (SqT.of (by assumption)) ?_
  | with_reducible refine r_isi_tup_list (SqT.of (by assumption)) ?_
  | with_reducible refine r_isi_tup_tuple (SqT.of (by assumption)) ?_
  | with_reducible refine r_isi_tup_bool (SqT.of (by assumption)) ?_))
local macro_rules | `(tactic| walk_at "rs") => `(tactic| (first
  | ((with_reducible refine iteTc ?hc ?_); (case hc => rfl)) | ((with_reducible refine iteFc ?hc ?_); (case hc => rfl))
  | walk_at "isi"
  | refine r_ixL (SqL.of (by assumption)) rfl ?_ | refine r_ixL (SqL.of upd_same) rfl ?_
  | refine r_I (C := fun _ j => 0 < j) (by first | decide | assumption | omega) ?_
  | refine r_mulI (.inl ⟨by decide, by decide⟩) ?_ | refine r_mulI (.inr ⟨by decide, by decide⟩) ?_ | refine r_mulI (.inr ⟨by omega, by omega⟩) ?_ | refine r_mulI (.inl ⟨by omega, by omega⟩) ?_
  | refine r_I (wide_div (b := 64) (by decide) (by decide) (by decide) (by decide)) ?_
  | refine r_I (C := CPow) ⟨by decide, by decide, by decide⟩ ?_
  | refine r_setL (by assumption) rfl ?_ | refine r_setL upd_same rfl ?_))
local macro_rules | `(tactic| walk_at "rx") => `(tactic| (walk_at "rd"; (repeat (walk_at "rs"; walk_at "rd"))))

def top (i : Nat) : Stmt := PySem.Challenge.pw_whatpasses_k11_errors_made.main.body.getD i (.Pass ⟨0, 0, 0, 0⟩)
/-! ### the draws -/
def spTake : Sp := fun vs H Q _ => ∃ (b : Addr) (m : Int) (n : Nat), vs = [.ref b, .int m] ∧ Bag b n H ∧ n < 1000000000000 ∧ 0 < m ∧ m < 2 ^ 200 ∧
  ∀ (d : Int) (H' : Hp), 0 ≤ d → d < m → Drw b (n + 1) H H' → Q (.int d) H'
abbrev s_law_take : Stmt := top 18
abbrev N_law_take : List Str := ["_law_bag_here", "_law_many", "_law_digit", "_law_mixed"]
theorem sc_law_take : FnScope N_law_take ["_law_bag_here", "_law_many"] (defScope s_law_take) := ⟨rfl, rfl, rfl, by decide +kernel, rfl, by decide +kernel, by decide +kernel⟩
section
variable {P : Program} {w : World} {K : PySem.W.Frag} {mg : Str → Option Value} {base : Heap}
theorem c_take (F : At K mg "_law_take" s_law_take) (B : Bl mg) : Cal P w K mg base 1 "_law_take" spTake := by
  refine cal_of F sc_law_take (fun vs H Q E h => ?_) (fun _ _ _ _ _ _ us hl => match us, hl with | [_, _], _ => rfl) (fun f cdv A outer s H vs Q E hr h => ?_)
  · obtain ⟨b, m, n, rfl, _⟩ := h
    rfl
  · obtain ⟨b, m, n, rfl, ⟨l, hb, x, y, z, rfl, hy0, hy1, hz0, hz1⟩, hn, hm0, hm1, k⟩ := h
    refine ⟨_, (pss_cons (ps_if (pt_cmpR op_gtA (pe_ix (ix_A K) (pv 0) pe_int (fun _ _ => rfl)) pe_int (nomark _))
   (pss_cons (ps_set (i := 2) sc_law_take.nd rfl (Or.inl rfl) (pe_op op_mod (pe_callTy call_intA rfl B.int (by decide +kernel) (pa_cons (pe_ix (ix_A K) (pv 0) pe_int (fun _ _ => rfl)) pa_nil)) (pv 1)))
  (pss_cons (ps_asg (pe_op op_fdivW (pe_ix (ix_A K) (pv 0) pe_int (fun _ _ => rfl)) (pv 1)) (pg_sub (pv 0) pe_int set_list))
  (pss_one (ps_ret (pv 2)))))
   pss_nil)
  (pss_cons (ps_asg (pe_op (op_addA K) (pe_ix (ix_A K) (pv 0) pe_int (fun _ _ => rfl)) pe_int) (pg_sub (pv 0) pe_int set_list))
  (pss_cons (ps_set (i := 3) sc_law_take.nd rfl (Or.inl rfl) (pe_op op_mod (pe_callTy call_intA rfl B.int (by decide +kernel) (pa_cons (pe_op op_mulA (pe_op (op_addA K) (pe_ix (ix_A K) (pv 0) pe_int (fun _ _ => rfl)) (pe_op op_mulA pe_int (pe_ix (ix_A K) (pv 0) pe_int (fun _ _ => rfl)))) (pe_op (op_addA K) (pe_ix (ix_A K) (pv 0) pe_int (fun _ _ => rfl)) pe_int)) pa_nil)) pe_int))
  (pss_one (ps_ret (pe_op op_mod (pe_callTy call_intA rfl B.int (by decide +kernel) (pa_cons (pe_op op_fdivW (pe_op op_mod (pe_callTy call_intA rfl B.int (by decide +kernel) (pa_cons (pe_op op_pow (pe_op (op_addA K) (pv 3) (pe_op op_mulA pe_int (pe_ix (ix_A K) (pv 0) pe_int (fun _ _ => rfl)))) pe_int) pa_nil)) pe_int) pe_int) pa_nil)) (pv 1))))))), ?_⟩
    walk_at "rx"
    refine iteD (fun hx => ?_) (fun hx => ?_)
    · walk_at "rx"
      refine r_I (wide_div (b := 200) hm0 (by omega) (by decide) (by decide)) ?_
      walk_at "rx"
      exact k _ _ (Int.emod_nonneg _ (by omega)) (Int.emod_lt_of_pos _ hm0) ⟨by rw [hid_bag]; exact Evl.Ex.refl _, _, upd_same, _, y, z, rfl, hy0, hy1, hz0, by omega⟩
    · walk_at "rx"
      have h2 : 0 ≤ (y + 40009 * (z + 1)) * (y + 7919) % 2147483647 := Int.emod_nonneg _ (by decide)
      have h3 : (y + 40009 * (z + 1)) * (y + 7919) % 2147483647 < 2147483647 := Int.emod_lt_of_pos _ (by decide)
      refine r_I (C := CPow) ⟨by decide, by decide, ?_⟩ ?_
      · revert h2 h3
        generalize (y + 40009 * (z + 1)) * (y + 7919) % 2147483647 = q
        intro h2 h3
        omega
      walk_at "rx"
      exact k _ _ (Int.emod_nonneg _ (by omega)) (Int.emod_lt_of_pos _ hm0) ⟨by rw [hid_bag]; exact Evl.Ex.refl _, _, upd_same, x, y, z + 1, rfl, hy0, hy1, by omega, by omega⟩
end

section
variable {P : Program} {w : World} {K : PySem.W.Frag} {mg : Str → Option Value} {base : Heap}
/-! one of a list, a tuple, a text -/
def spOf (K : PySem.W.Frag) : Sp := fun vs H Q _ => ∃ (b : Addr) (v : V) (n : Nat), vs = [.ref b, v] ∧ Bag b n H ∧ n < 1000000000000 ∧
  ((∃ (a : Addr) (xs : List V), v = .ref a ∧ SqA K (hid b H) a xs ∧ 0 < xs.length ∧ xs.length ≤ 100000 ∧ ∀ y ∈ xs, ∀ H', Drw b (n + 1) H H' → Q y H') ∨
   (∃ z : Str, v = .str z ∧ 0 < z.length ∧ z.length ≤ 100000 ∧ ∀ c ∈ z.cps.toList, ∀ H', Drw b (n + 1) H H' → Q (.str ⟨#[c]⟩) H'))
abbrev s_law_of : Stmt := top 19
abbrev N_law_of : List Str := ["_law_bag_here", "_law_some"]
theorem sc_law_of : FnScope N_law_of ["_law_bag_here", "_law_some"] (defScope s_law_of) := ⟨rfl, rfl, rfl, by decide +kernel, rfl, by decide +kernel, by decide +kernel⟩
theorem c_of (F : At K mg "_law_of" s_law_of) (B : Bl mg) (c_law_take : Cal P w K mg base 1 "_law_take" spTake) : Cal P w K mg base 2 "_law_of" (spOf K) := by
  refine cal_of F sc_law_of (fun vs H Q E h => ?_) (fun _ _ _ _ _ _ us hl => match us, hl with | [_, _], _ => rfl) (fun f cdv A outer s H vs Q E hr h => ?_)
  · obtain ⟨b, v, n, rfl, _⟩ := h
    rfl
  · obtain ⟨b, v, n, rfl, hb, hn, h⟩ := h
    refine ⟨_, (pss_one (ps_ret (pe_ix (ix_A K) (pv 1) (pe_cA c_law_take hr (by omega) rfl (pa_cons (pv 0) (pa_cons (pe_callB (call_lenA K) rfl B.len (by decide +kernel) (pa_cons (pv 1) pa_nil)) pa_nil))) (fun _ _ => rfl)))), ?_⟩
    walk_at "rd"
    rcases h with ⟨a, xs, rfl, hs, h0, h1, k⟩ | ⟨z, rfl, h0, h1, k⟩
    · have hl : LenV K (.ref a) H xs.length := by
        rcases hs with hs | hs
        · exact .inl ⟨_, Evl.ex_l hid_ex hs, rfl⟩
        · exact .inr ⟨_, Evl.ex_t hid_ex hs, rfl⟩
      refine ⟨_, _, rfl, hl, ?_⟩
      walk_at "rd"
      refine ⟨b, _, n, rfl, hb, hn, by omega, by omega, fun d H' hd0 hd1 hd => ?_⟩
      obtain ⟨j, rfl⟩ := Int.eq_ofNat_of_zero_le hd0
      have hj : j < xs.length := by omega
      have hx : xs[j]? = some xs[j] := List.getElem?_eq_getElem hj
      rcases hs with hs | hs
      · refine r_ixL (Evl.ex_l hid_ex (hd.l hs)) (atI_nat hx) ?_
        exact k _ (List.getElem_mem hj) _ hd
      · refine r_ixT (Evl.ex_t hid_ex (hd.t hs)) (atI_nat hx) ?_
        exact k _ (List.getElem_mem hj) _ hd
    · refine r_lenS (by rw [sizeLine_eq]; omega) ?_
      walk_at "rd"
      refine ⟨b, _, n, rfl, hb, hn, by omega, by omega, fun d H' hd0 hd1 hd => ?_⟩
      obtain ⟨j, rfl⟩ := Int.eq_ofNat_of_zero_le hd0
      have hj : j < z.cps.toList.length := by
        have e : z.cps.toList.length = z.length := by simp [Str.length]
        omega
      refine r_ixS (by rw [sizeLine_eq]; omega) (atI_nat (List.getElem?_eq_getElem hj)) ?_
      exact k _ (List.getElem_mem hj) _ hd
end

section
variable {P : Program} {w : World} {K : PySem.W.Frag} {mg : Str → Option Value} {base : Heap}
/-! a word -/
def spWord : Sp := fun vs H Q _ => ∃ (b : Addr) (m n : Nat), vs = [.ref b, .int (m : Int)] ∧ Bag b n H ∧ n + m + 2 < 1000000000000 ∧ m ≤ 1000 ∧
  ∀ (z : Str) (H' : Hp), Word m z → Drw b (n + m + 2) H H' → Q (.str z) H'
abbrev s_law_word : Stmt := top 20
abbrev N_law_word : List Str := ["_law_bag_here", "_law_most", "_law_turn"]
theorem sc_law_word : FnScope N_law_word ["_law_bag_here", "_law_most"] (defScope s_law_word) := ⟨rfl, rfl, rfl, by decide +kernel, rfl, by decide +kernel, by decide +kernel⟩
theorem small_eq : ("abcdefghijklmnopqrstuvwxyz" : Str).cps.toList = (List.range 26).map (· + 97) := by decide +kernel
theorem small_ok {c : Nat} (h : c ∈ ("abcdefghijklmnopqrstuvwxyz" : Str).cps.toList) : 97 ≤ c ∧ c ≤ 122 := by
  rw [small_eq] at h
  obtain ⟨x, hx, rfl⟩ := List.mem_map.mp h
  have := List.mem_range.mp hx
  omega
theorem tl_join0 : ∀ cs : List Nat, (Txt.join ("" : Str) (cs.map fun c => (⟨#[c]⟩ : Str))).cps.toList = cs := by
  intro cs
  have h : ∀ l : List (List Nat), TL.joinL [] l = l.flatten := by
    intro l
    induction l with
    | nil => rfl
    | cons p r ih =>
      cases r with
      | nil => simp [TL.joinL]
      | cons q r => rw [TL.joinL, ih]; simp
  have e := TL.tl_join ("" : Str) (cs.map fun c => (⟨#[c]⟩ : Str))
  rw [TL.join_eq]
  refine e.trans ?_
  have e2 : TL.tl ("" : Str) = [] := by decide +kernel
  rw [e2, h, List.map_map]
  clear e
  induction cs with
  | nil => rfl
  | cons c r ih =>
    rw [List.map_cons, List.flatten_cons, ih]
    rfl
theorem c_word (F : At K mg "_law_word" s_law_word) (B : Bl mg) (c_law_take : Cal P w K mg base 1 "_law_take" spTake) (c_law_of : Cal P w K mg base 2 "_law_of" (spOf K)) : Cal P w K mg base 3 "_law_word" spWord := by
  refine cal_of F sc_law_word (fun vs H Q E h => ?_) (fun _ _ _ _ _ _ us hl => match us, hl with | [_, _], _ => rfl) (fun f cdv A outer s H vs Q E hr h => ?_)
  · obtain ⟨b, m, n, rfl, _⟩ := h
    rfl
  · obtain ⟨b, m, n, rfl, hb, hn, hm, k⟩ := h
    refine ⟨_, (pss_one (ps_ret (pe_joinA K pe_str (pe_lc (own := [("_law_turn", 2)]) rfl sc_law_word.nd (pi_range1 rfl B.range (pa_cons (pe_cA c_law_take hr (by omega) rfl (pa_cons (pv 0) (pa_cons (pe_op (op_addA K) (pv 1) pe_int) pa_nil))) pa_nil)) (blkOk_by (N := N_law_word) (sc := defScope s_law_word) (by decide +kernel)) (fun _ _ _ _ _ => (pg_name (i := 2) sc_law_word.nd rfl (Or.inl rfl))) (fun _ _ _ _ _ => pts_nil) (fun _ _ _ _ _ => (pe_cA c_law_of hr (by omega) rfl (pa_cons (pv 0) (pa_cons pe_str pa_nil)))))))), ?_⟩
    walk_at "rd"
    refine ⟨⟨_, rfl⟩, ?_⟩
    walk_at "rd"
    refine ⟨b, _, n, rfl, hb, by omega, by omega, by omega, fun d H1 hd0 hd1 hd => ?_⟩
    obtain ⟨j, rfl⟩ := Int.eq_ofNat_of_zero_le hd0
    refine ⟨_, rfl, by omega, by omega, fun D hD => ?_⟩
    have nDb : D ≠ b := by
      obtain ⟨l, h1, _⟩ := hd.bag
      exact (ne_of_none h1 hD).symm
    refine lc_range (lo := 0) (n := (j : Int).toNat) (fun i H' => ∃ cs : List Nat, cs.length = i ∧ (∀ c ∈ cs, 97 ≤ c ∧ c ≤ 122) ∧ H' D = some (.lst (cs.map fun c => V.str ⟨#[c]⟩)) ∧ Drw b (n + 1 + i) H1 H') ?_ ?_ ?_
    · exact ⟨[], rfl, fun _ h => by (cases h), upd_same, (hd.bag.new hD).1⟩
    · rintro i H' hi ⟨cs, hl, hc, h1, h2⟩
      walk_at "rd"
      refine ⟨rfl, ?_⟩
      walk_at "rd"
      refine ⟨b, _, n + 1 + i, rfl, h2.bag, by omega, .inr ⟨_, rfl, by decide +kernel, by decide +kernel, fun c hcm H2 hd2 => ?_⟩⟩
      have hD2 : H2 D = some (.lst (cs.map fun c => V.str ⟨#[c]⟩)) := hid_get (hd2.ex _ _ (hid_of h1 nDb))
      refine ⟨_, hD2, by rw [sizeLine_eq, List.length_map]; omega, cs ++ [c], by simp [hl], ?_, ?_, ?_⟩
      · intro x hx
        rcases List.mem_append.mp hx with hx | hx
        · exact hc x hx
        · rw [List.mem_singleton.mp hx]
          exact small_ok hcm
      · rw [upd_same, List.map_append]; rfl
      · exact (Drw.put (h2.trans hd2) (hid_none hD) nDb).mono (by omega)
    · rintro H' ⟨cs, hl, hc, h1, h2⟩
      have e1 : cs.map (fun c => V.str ⟨#[c]⟩) = (cs.map fun c => (⟨#[c]⟩ : Str)).map V.str := by rw [List.map_map]; rfl
      refine ⟨_, _, _, rfl, rfl, .inl (SqL.of (by rw [← e1]; exact h1)), ?_, ?_⟩
      · rw [List.map_map, List.length_map]
        have e2 : (cs.map ((fun (x : Str) => x.length) ∘ fun c => (⟨#[c]⟩ : Str))).sum = cs.length := by
          have : ∀ l : List Nat, (l.map ((fun (x : Str) => x.length) ∘ fun c => (⟨#[c]⟩ : Str))).sum = l.length := by
            intro l
            induction l with
            | nil => rfl
            | cons a r ih => rw [List.map_cons, List.sum_cons, ih, List.length_cons]; show 1 + r.length = _; omega
          exact this cs
        rw [e2]
        have e3 : ("" : Str).length = 0 := by decide +kernel
        rw [e3]
        omega
      · refine k _ _ ⟨?_, ?_⟩ ((hd.trans h2).mono (by omega))
        · have := congrArg List.length (tl_join0 cs)
          rw [show (Txt.join ("" : Str) (cs.map fun c => (⟨#[c]⟩ : Str))).length = (Txt.join ("" : Str) (cs.map fun c => (⟨#[c]⟩ : Str))).cps.toList.length from by simp [Str.length], this]
          omega
        · rw [tl_join0]
          exact hc
end

section
variable {P : Program} {w : World} {K : PySem.W.Frag} {mg : Str → Option Value} {base : Heap}
/-! a class name -/
def spClass : Sp := fun vs H Q _ => ∃ (b : Addr) (n : Nat), vs = [.ref b] ∧ Bag b n H ∧ n + 20 < 1000000000000 ∧
  ∀ (z : Str) (H' : Hp), ClsN z → Drw b (n + 20) H H' → Q (.str z) H'
abbrev s_law_class : Stmt := top 21
abbrev N_law_class : List Str := ["_law_bag_here", "_law_letters", "_law_found", "_law_turn"]
theorem sc_law_class : FnScope N_law_class ["_law_bag_here"] (defScope s_law_class) := ⟨rfl, rfl, rfl, by decide +kernel, rfl, by decide +kernel, by decide +kernel⟩
theorem letters_cap : (cutS ("abcdefghijklmnopqrstuvwxyzABCDEFGHIJKLMNOPQRSTUVWXYZ" : Str) (some 26) none).cps.toList = (List.range 26).map (· + 65) := by decide +kernel
theorem letters_eq : ("abcdefghijklmnopqrstuvwxyzABCDEFGHIJKLMNOPQRSTUVWXYZ" : Str).cps.toList = (List.range 26).map (· + 97) ++ (List.range 26).map (· + 65) := by decide +kernel
theorem letters_ok {c : Nat} (h : c ∈ ("abcdefghijklmnopqrstuvwxyzABCDEFGHIJKLMNOPQRSTUVWXYZ" : Str).cps.toList) : Let c := by
  rw [letters_eq] at h
  rcases List.mem_append.mp h with h | h
  · obtain ⟨x, hx, rfl⟩ := List.mem_map.mp h
    have := List.mem_range.mp hx
    exact .inl ⟨by omega, by omega⟩
  · obtain ⟨x, hx, rfl⟩ := List.mem_map.mp h
    have := List.mem_range.mp hx
    exact .inr ⟨by omega, by omega⟩
theorem tl_snoc (z : Str) (d : Nat) : (z ++ (⟨#[d]⟩ : Str)).cps.toList = z.cps.toList ++ [d] := TL.tl_append z ⟨#[d]⟩
theorem tl_len (z : Str) : z.cps.toList.length = z.length := by simp [Str.length]
theorem c_class (F : At K mg "_law_class" s_law_class) (B : Bl mg) (c_law_take : Cal P w K mg base 1 "_law_take" spTake) (c_law_of : Cal P w K mg base 2 "_law_of" (spOf K)) : Cal P w K mg base 3 "_law_class" spClass := by
  refine cal_of F sc_law_class (fun vs H Q E h => ?_) (fun _ _ _ _ _ _ us hl => match us, hl with | [_], _ => rfl) (fun f cdv A outer s H vs Q E hr h => ?_)
  · obtain ⟨b, n, rfl, _⟩ := h
    rfl
  · obtain ⟨b, n, rfl, hb, hn, k⟩ := h
    refine ⟨_, (pss_cons (ps_set (i := 1) sc_law_class.nd rfl (Or.inl rfl) pe_str)
  (pss_cons (ps_set (i := 2) sc_law_class.nd rfl (Or.inl rfl) (pe_cA c_law_of hr (by omega) rfl (pa_cons (pv 0) (pa_cons (pe_slice (sl_A K) (pv 1) (po_some pe_int) po_none) pa_nil))))
  (pss_cons (ps_for PassesOwn.never rfl (pi_range1 rfl B.range (pa_cons (pe_cA c_law_take hr (by omega) rfl (pa_cons (pv 0) (pa_cons pe_int pa_nil))) pa_nil)) (pg_name (i := 3) sc_law_class.nd rfl (Or.inl rfl))
   (pss_one (ps_set (i := 2) sc_law_class.nd rfl (Or.inl rfl) (pe_op (op_addA K) (pv 2) (pe_cA c_law_of hr (by omega) rfl (pa_cons (pv 0) (pa_cons (pv 1) pa_nil)))))))
  (pss_one (ps_ret (pv 2)))))), ?_⟩
    walk_at "rd"
    refine r_slS (by decide +kernel) ?_
    walk_at "rd"
    refine ⟨b, _, n, rfl, hb, by omega, .inr ⟨_, rfl, by decide +kernel, by decide +kernel, fun c0 hc0 H1 hd1 => ?_⟩⟩
    rw [letters_cap] at hc0
    have hc0 : 65 ≤ c0 ∧ c0 ≤ 90 := by
      obtain ⟨x, hx, rfl⟩ := List.mem_map.mp hc0
      have := List.mem_range.mp hx
      omega
    walk_at "rd"
    refine ⟨b, _, n + 1, rfl, hd1.bag, by omega, by decide, by decide, fun d H2 hd0 hdl hd2 => ?_⟩
    refine ⟨_, rfl, by omega, by omega, for_range (lo := 0) (n := d.toNat) (fun i σ H' => ∃ (z : Str) (r : List Nat) (u : Option V), σ = [some (.ref b), some (.str "abcdefghijklmnopqrstuvwxyzABCDEFGHIJKLMNOPQRSTUVWXYZ"), some (.str z), u] ∧ z.cps.toList = c0 :: r ∧ r.length = i ∧ (∀ x ∈ r, Let x) ∧ Drw b (n + 2 + i) H H') ?_ ?_ ?_⟩
    · exact ⟨⟨#[c0]⟩, [], none, rfl, rfl, rfl, fun _ h => by (cases h), hd1.trans hd2⟩
    · rintro i σ H' hi ⟨z, r, u, rfl, hz, hr2, hlet, hd⟩
      walk_at "rd"
      refine ⟨b, _, n + 2 + i, rfl, hd.bag, by omega, .inr ⟨_, rfl, by decide +kernel, by decide +kernel, fun c hc H3 hd3 => ?_⟩⟩
      have hzl : z.length = i + 1 := by rw [← tl_len, hz, List.length_cons, hr2]
      refine r_addS (by rw [sizeLine_eq, hzl]; show i + 1 + 1 ≤ _; omega) ?_
      refine ⟨_, r ++ [c], _, rfl, ?_, by simp [hr2], ?_, (hd.trans hd3).mono (by omega)⟩
      · rw [tl_snoc, hz]; rfl
      · intro x hx
        rcases List.mem_append.mp hx with hx | hx
        · exact hlet x hx
        · rw [List.mem_singleton.mp hx]
          exact letters_ok hc
    · rintro σ H' ⟨z, r, u, rfl, hz, hr2, hlet, hd⟩
      walk_at "rd"
      exact k _ _ ⟨c0, r, hz, hc0, hlet, by omega⟩ (hd.mono (by omega))
end

section
variable {P : Program} {w : World} {K : PySem.W.Frag} {mg : Str → Option Value} {base : Heap}
/-! a bag -/
def spBag (K : PySem.W.Frag) : Sp := fun vs H Q _ => ∃ (a : Addr) (ns : List Int) (i : Nat), vs = [.ref a, .int (i : Int)] ∧ SqL K H a (ns.map V.int) ∧ i < 64 ∧ ns.length ≤ 63 ∧
  ∀ (b : Addr) (l : List V), H b = none → BagL 0 l → Q (.ref b) (upd H b (.lst l))
abbrev s_law_bag : Stmt := top 17
abbrev N_law_bag : List Str := ["_law_script", "_law_at", "_law_cell"]
theorem sc_law_bag : FnScope N_law_bag ["_law_script", "_law_at"] (defScope s_law_bag) := ⟨rfl, rfl, rfl, by decide +kernel, rfl, by decide +kernel, by decide +kernel⟩
theorem c_bag (F : At K mg "_law_bag" s_law_bag) (B : Bl mg) : Cal P w K mg base 1 "_law_bag" (spBag K) := by
  refine cal_of F sc_law_bag (fun vs H Q E h => ?_) (fun _ _ _ _ _ _ us hl => match us, hl with | [_, _], _ => rfl) (fun f cdv A outer s H vs Q E hr h => ?_)
  · obtain ⟨a, ns, i, rfl, _⟩ := h
    rfl
  · obtain ⟨a, ns, i, rfl, hs, hi, hns, k⟩ := h
    refine ⟨_, (pss_cons (ps_set (i := 2) sc_law_bag.nd rfl (Or.inl rfl) (pe_ifExp (pt_cmpR op_ltA (pv 1) (pe_callB (call_lenA K) rfl B.len (by decide +kernel) (pa_cons (pv 0) pa_nil)) (nomark _)) (pe_ix (ix_A K) (pv 0) (pv 1) (fun _ _ => rfl)) pe_int))
  (pss_one (ps_ret (pe_lst (pa_cons (pe_ifExp (pt_cmpR op_geA (pe_callB call_absA rfl B.abs (by decide +kernel) (pa_cons (pv 2) pa_nil)) (pe_op op_pow pe_int pe_int) (nomark _)) (pe_callB call_absA rfl B.abs (by decide +kernel) (pa_cons (pv 2) pa_nil)) pe_int) (pa_cons (pe_op (op_addA K) (pe_op op_mod (pe_callTy call_intA rfl B.int (by decide +kernel) (pa_cons (pv 2) pa_nil)) pe_int) (pe_op op_mulA pe_int (pv 1))) (pa_cons pe_int pa_nil))))))), ?_⟩
    walk_at "rd"
    refine r_lenL hs ?_
    walk_at "rd"
    have key : ∀ c : Int, tRet (tLst (tCons (tIf (tTest (tOp rGeA (tCB rAbsA (tCons (tVar 2) tNil)) (tOp (rI CPow fun i j => .int (i ^ j.toNat)) (tC (.int 10)) (tC (.int 18))))) (tCB rAbsA (tCons (tVar 2) tNil)) (tC (.int 0)))
        (tCons (tOp (rAddA K) (tOp (rI (fun _ j => 0 < j) fun i j => .int (i % j)) (tCB rIntA (tCons (tVar 2) tNil)) (tC (.int 998244353))) (tOp rMulA (tC (.int 3000017)) (tVar 1))) (tCons (tC (.int 0)) tNil)))) { nx := fun _ H' => Q .non H', rt := Q } [some (.ref a), some (.int (i : Int)), some (.int c)] H := by
      intro c
      have hm1 : 0 ≤ c % 998244353 := Int.emod_nonneg _ (by decide)
      have hm2 : c % 998244353 < 998244353 := Int.emod_lt_of_pos _ (by decide)
      walk_at "rx"
      refine iteD (fun h1 => ?_) (fun h1 => ?_)
      · walk_at "rx"
        refine ⟨(by show 3 ≤ sizeLine; decide), fun p hp => k p _ hp ⟨_, _, _, rfl, by omega, by omega, by omega, by omega⟩⟩
      · walk_at "rx"
        refine ⟨(by show 3 ≤ sizeLine; decide), fun p hp => k p _ hp ⟨_, _, _, rfl, by omega, by omega, by omega, by omega⟩⟩
    refine iteD (fun h1 => ?_) (fun h1 => ?_)
    · have hi2 : i < ns.length := by
        rw [List.length_map] at h1
        omega
      walk_at "rd"
      refine r_ixL hs (atI_nat (by rw [List.getElem?_map, List.getElem?_eq_getElem hi2]; rfl)) ?_
      exact key _
    · refine r_c ?_
      exact key 0
end

abbrev s_law_any : Stmt := top 22
abbrev N_law_any : List Str := ["_law_bag_here", "_law_deep", "_law_way", "_law_some", "_law_turn"]
theorem sc_law_any : FnScope N_law_any ["_law_bag_here", "_law_deep"] (defScope s_law_any) := ⟨rfl, rfl, rfl, by decide +kernel, rfl, by decide +kernel, by decide +kernel⟩
def anyCost : Nat → Nat
  | 0 => 100
  | n + 1 => 100 + 5 * anyCost n
def spAny (K : PySem.W.Frag) (D : Nat) : Sp := fun vs H Q _ => ∃ (b : Addr) (n : Nat), vs = [.ref b, .int (D : Int)] ∧ Bag b n H ∧ n + anyCost D < 1000000000000 ∧
  ∀ (v : V) (H' : Hp), Dw K (nov H H') D v → Drw b (n + anyCost D) H H' → Q v H'
section
variable {P : Program} {w : World} {K : PySem.W.Frag} {mg : Str → Option Value} {base : Heap}
theorem big_int {d : Int} (h0 : 0 ≤ d) (h1 : d < 2 * 10 ^ Int.toNat 39) : (d - 10 ^ Int.toNat 39).natAbs < 2 ^ 200 := by
  have e1 : (10 : Int) ^ Int.toNat 39 = 1000000000000000000000000000000000000000 := by decide +kernel
  have e2 : (2 : Nat) ^ 200 = 1606938044258990275541962092341162602522202993782792835301376 := by decide +kernel
  rw [e1] at h1 ⊢
  rw [e2]
  omega
theorem small_int {d : Int} (h0 : 0 ≤ d) (h1 : d < 9) : (d - 4).natAbs < 2 ^ 200 := by
  have e2 : (2 : Nat) ^ 200 = 1606938044258990275541962092341162602522202993782792835301376 := by decide +kernel
  rw [e2]
  omega
theorem str_dw {H : Hp} {m : Nat} {z : Str} (h1 : decide (z.length ≤ 100) = true) (h2 : PyData.strOk z = true) : Dw K H m (.str z) := dw_str (of_decide_eq_true h1) h2
theorem word_dw {H : Hp} {m n : Nat} {z : Str} (h : Word n z) (hn : n ≤ 50) : Dw K H m (.str z) := dw_str (by have := h.1; omega) (word_ok h)
theorem cls_dw {H : Hp} {m : Nat} {z : Str} (h : ClsN z) : Dw K H m (.str z) := by
  refine dw_str ?_ (cls_ok h)
  obtain ⟨c, r, e, _, _, hr⟩ := h
  have : z.cps.toList.length = z.length := by simp [Str.length]
  rw [← this, e, List.length_cons]
  omega
theorem any_step (F : At K mg "_law_any" s_law_any) (B : Bl mg) (c_law_take : Cal P w K mg base 1 "_law_take" spTake) (c_law_of : Cal P w K mg base 2 "_law_of" (spOf K)) (c_law_word : Cal P w K mg base 3 "_law_word" spWord) (c_law_class : Cal P w K mg base 3 "_law_class" spClass)
    (D k : Nat) (sp' : Sp) (hs : ∀ D', D = D' + 1 → sp' = spAny K D') (c_law_any : Cal P w K mg base (k + 3) "_law_any" sp') : Cal P w K mg base (k + 4) "_law_any" (spAny K D) := by
  refine cal_of F sc_law_any (fun vs H Q E h => ?_) (fun _ _ _ _ _ _ us hl => match us, hl with | [_, _], _ => rfl) (fun f cdv A outer s H vs Q E hr h => ?_)
  · obtain ⟨b, n, rfl, _⟩ := h
    rfl
  · obtain ⟨b, n, rfl, hb, hn, kk⟩ := h
    have hc0 : 100 ≤ anyCost D := by cases D <;> simp [anyCost] <;> omega
    refine ⟨_, (pss_cons (ps_set (i := 2) sc_law_any.nd rfl (Or.inl rfl) (pe_cA c_law_take hr (by omega) rfl (pa_cons (pv 0) (pa_cons pe_int pa_nil))))
  (pss_cons (ps_if (pt_cmpR (op_eqA K hr.units) (pv 2) pe_int (nomark _))
   (pss_one (ps_ret (pe_cA c_law_of hr (by omega) rfl (pa_cons (pv 0) (pa_cons (pe_lst (pa_cons pe_non (pa_cons pe_bl (pa_cons pe_bl (pa_cons pe_int (pa_cons pe_int pa_nil)))))) pa_nil)))))
   pss_nil)
  (pss_cons (ps_if (pt_cmpR (op_eqA K hr.units) (pv 2) pe_int (nomark _))
   (pss_one (ps_ret (pe_op op_sub (pe_cA c_law_take hr (by omega) rfl (pa_cons (pv 0) (pa_cons (pe_op op_mulA pe_int (pe_op op_pow pe_int pe_int)) pa_nil))) (pe_op op_pow pe_int pe_int))))
   pss_nil)
  (pss_cons (ps_if (pt_cmpR (op_eqA K hr.units) (pv 2) pe_int (nomark _))
   (pss_one (ps_ret (pe_cA c_law_word hr (by omega) rfl (pa_cons (pv 0) (pa_cons pe_int pa_nil)))))
   pss_nil)
  (pss_cons (ps_if (pt_cmpR (op_eqA K hr.units) (pv 2) pe_int (nomark _))
   (pss_one (ps_ret (pe_cA c_law_of hr (by omega) rfl (pa_cons (pv 0) (pa_cons (pe_lst (pa_cons pe_str (pa_cons pe_str (pa_cons pe_str (pa_cons pe_str (pa_cons pe_str (pa_cons pe_str (pa_cons pe_str (pa_cons pe_str (pa_cons pe_str (pa_cons pe_str pa_nil))))))))))) pa_nil)))))
   pss_nil)
  (pss_cons (ps_if (pt_cmpR (op_eqA K hr.units) (pv 2) pe_int (nomark _))
   (pss_one (ps_ret (pe_cA c_law_class hr (by omega) rfl (pa_cons (pv 0) pa_nil))))
   pss_nil)
  (pss_cons (ps_if (pt_cmpR (op_eqA K hr.units) (pv 1) pe_int (nomark _))
   (pss_one (ps_ret (pe_op op_sub (pe_cA c_law_take hr (by omega) rfl (pa_cons (pv 0) (pa_cons pe_int pa_nil))) pe_int)))
   pss_nil)
  (pss_cons (ps_setLc (i := 3) (own := [("_law_turn", 4)]) rfl sc_law_any.nd rfl rfl (sw_true rfl rfl rfl (by decide +kernel)) (pi_range1 rfl B.range (pa_cons (pe_cA c_law_take hr (by omega) rfl (pa_cons (pv 0) (pa_cons pe_int pa_nil))) pa_nil)) (blkOk_by (N := N_law_any) (sc := defScope s_law_any) (by decide +kernel)) (fun _ _ _ _ _ => (pg_name (i := 4) sc_law_any.nd rfl (Or.inl rfl))) (fun _ _ _ _ _ => pts_nil) (fun _ _ _ _ _ => (pe_cA c_law_any hr (by omega) rfl (pa_cons (pv 0) (pa_cons (pe_op op_sub (pv 1) pe_int) pa_nil)))))
  (pss_one (ps_ret (pe_ifExp (pt_cmpR op_ltA (pv 2) pe_int (nomark _)) (pe_callTy (call_tupleA K) rfl B.tuple (by decide +kernel) (pa_cons (pv 3) pa_nil)) (pv 3)))))))))))), ?_⟩
    walk_at "rd"
    refine ⟨b, _, n, rfl, hb, by omega, by decide, by decide, fun way H1 hw0 hw1 r1 => ?_⟩
    walk_at "rd"
    refine iteD (fun h1 => ?_) (fun h1 => ?_)
    · walk_at "rd"
      refine ⟨by show 5 ≤ sizeLine; decide, fun p hp => ?_⟩
      obtain ⟨r2, hp2⟩ := r1.bag.new (o := .lst [.non, .bl true, .bl false, .int 0, .int 1]) hp
      walk_at "rd"
      refine ⟨b, _, n + 1, rfl, r2.bag, by omega, .inl ⟨p, _, rfl, .inl (SqL.of hp2), by simp, by simp, fun y hy H3 r3 => ?_⟩⟩
      refine kk _ _ ?_ (((r1.trans r2).trans r3).mono (by omega))
      simp only [List.mem_cons, List.not_mem_nil, or_false] at hy
      rcases hy with rfl | rfl | rfl | rfl | rfl
      · exact dw_non
      · exact dw_bl
      · exact dw_bl
      · exact dw_int (by decide)
      · exact dw_int (by decide)
    · walk_at "rd"
      refine iteD (fun h2 => ?_) (fun h2 => ?_)
      · walk_at "rx"
        refine ⟨b, _, n + 1, rfl, r1.bag, by omega, by decide, by decide, fun d H2 hd0 hd1 r2 => ?_⟩
        walk_at "rx"
        exact kk _ _ (dw_int (big_int hd0 hd1)) ((r1.trans r2).mono (by omega))
      · walk_at "rd"
        refine iteD (fun h3 => ?_) (fun h3 => ?_)
        · walk_at "rd"
          refine ⟨b, 31, n + 1, rfl, r1.bag, by omega, by omega, fun z H2 hz r2 => ?_⟩
          exact kk _ _ (word_dw hz (by omega)) ((r1.trans r2).mono (by omega))
        · walk_at "rd"
          refine iteD (fun h4 => ?_) (fun h4 => ?_)
          · walk_at "rd"
            refine ⟨by show 10 ≤ sizeLine; decide, fun p hp => ?_⟩
            obtain ⟨r2, hp2⟩ := r1.bag.new (o := .lst [.str "", .str "raises", .str "Error", .str "a b", .str "aB", .str "a1", .str "none", .str " ", .str "Abcdefghijkl", .str "Abcdefghijklm"]) hp
            walk_at "rd"
            refine ⟨b, _, n + 1, rfl, r2.bag, by omega, .inl ⟨p, _, rfl, .inl (SqL.of hp2), by simp, by simp, fun y hy H3 r3 => ?_⟩⟩
            refine kk _ _ ?_ (((r1.trans r2).trans r3).mono (by omega))
            simp only [List.mem_cons, List.not_mem_nil, or_false] at hy
            rcases hy with rfl | rfl | rfl | rfl | rfl | rfl | rfl | rfl | rfl | rfl
            all_goals exact str_dw (by decide +kernel) (by decide +kernel)
          · walk_at "rd"
            refine iteD (fun h5 => ?_) (fun h5 => ?_)
            · walk_at "rd"
              refine ⟨b, n + 1, rfl, r1.bag, by omega, fun z H2 hz r2 => ?_⟩
              exact kk _ _ (cls_dw hz) ((r1.trans r2).mono (by omega))
            · walk_at "rd"
              refine iteD (fun h6 => ?_) (fun h6 => ?_)
              · walk_at "rd"
                refine ⟨b, _, n + 1, rfl, r1.bag, by omega, by decide, by decide, fun d H2 hd0 hd1 r2 => ?_⟩
                walk_at "rd"
                exact kk _ _ (dw_int (small_int hd0 hd1)) ((r1.trans r2).mono (by omega))
              · obtain ⟨D', rfl⟩ : ∃ D', D = D' + 1 := by
                  cases D with
                  | zero => exact absurd rfl h6
                  | succ n => exact ⟨n, rfl⟩
                obtain rfl := hs D' rfl
                have hcost : anyCost (D' + 1) = 100 + 5 * anyCost D' := rfl
                rw [hcost] at hn kk
                walk_at "rd"
                refine ⟨b, _, n + 1, rfl, r1.bag, by omega, by decide, by decide, fun m0 H2 hm0 hm1 r2 => ?_⟩
                obtain ⟨m, rfl⟩ := Int.eq_ofNat_of_zero_le hm0
                replace r2 := r1.trans r2
                refine ⟨_, rfl, by omega, by omega, fun L hL => ?_⟩
                refine lc_draw (m := (m : Int).toNat) (c := anyCost D') hL r2.bag (by omega) (fun G v => Dw K G D' v) (fun _ _ _ e => Dw.mono e (Nat.le_refl _)) ?_ ?_ ?_
                · exact fun _ => rfl
                · intro i H' hi r3 Q' q
                  have hi5 : anyCost D' * i ≤ anyCost D' * 4 := Nat.mul_le_mul_left _ (by omega)
                  walk_at "rd"
                  refine ⟨b, _, by rw [show ((D' + 1 : Nat) : Int) - 1 = (D' : Int) by omega]; rfl, r3.bag, by omega, fun v H'' hv r4 => q v H'' hv r4⟩
                · intro H3 xs hxl hI hL3 nLb r3
                  have hm5 : anyCost D' * (m : Int).toNat ≤ anyCost D' * 4 := Nat.mul_le_mul_left _ (by omega)
                  have hnew : nov H H3 L = some (.lst xs) := nov_of (r2.dom hL) hL3
                  have hI2 : ∀ v ∈ xs, Dw K (nov H H3) D' v := fun v hv => Dw.mono (fun a o h => r2.base a o (hid_get h)) (Nat.le_refl _) (hI v hv)
                  walk_at "rd"
                  refine iteD (fun h7 => ?_) (fun h7 => ?_)
                  · walk_at "rd"
                    refine ⟨L, xs, rfl, .inl ⟨SqL.of hL3, fun p hp => ?_⟩⟩
                    obtain ⟨r4, hp4⟩ := r3.bag.new (o := .tup xs) hp
                    have r5 := (r2.trans r3).trans r4
                    refine kk _ _ ?_ (r5.mono (by omega))
                    refine dw_tup (SqT.of (nov_of ((r2.trans r3).dom hp) upd_same)) (fun v hv => Dw.mono (r4.novm hb.some) (Nat.le_refl _) (hI2 v hv)) (by omega)
                  · walk_at "rd"
                    refine kk _ _ ?_ ((r2.trans r3).mono (by omega))
                    exact dw_lst (SqL.of hnew) hI2 (by omega)
theorem any_never (F : At K mg "_law_any" s_law_any) : Cal P w K mg base 3 "_law_any" (fun _ _ _ _ => False) :=
  cal_of F sc_law_any (fun vs H Q E h => h.elim) (fun _ _ _ _ _ _ us hl => match us, hl with | [_, _], _ => rfl) (fun f cdv A outer s H vs Q E hr h => h.elim)
theorem c_any (F : At K mg "_law_any" s_law_any) (B : Bl mg) (c_law_take : Cal P w K mg base 1 "_law_take" spTake) (c_law_of : Cal P w K mg base 2 "_law_of" (spOf K)) (c_law_word : Cal P w K mg base 3 "_law_word" spWord) (c_law_class : Cal P w K mg base 3 "_law_class" spClass) :
    ∀ D : Nat, Cal P w K mg base (D + 4) "_law_any" (spAny K D)
  | 0 => any_step F B c_law_take c_law_of c_law_word c_law_class 0 0 _ (fun _ e => by cases e) (any_never F)
  | D + 1 => any_step F B c_law_take c_law_of c_law_word c_law_class (D + 1) (D + 1) _ (fun D' e => by cases e; rfl) (c_any F B c_law_take c_law_of c_law_word c_law_class D)
end

end WP

set_option Elab.async false
set_option linter.all false
set_option maxRecDepth 100000
set_option maxHeartbeats 4000000
namespace WP
open PySem PySem.Spec PyProof.Rows L2
local macro_rules | `(tactic| walk_at "rd") => `(tactic| repeat (first
  | with_reducible refine r_seq ?_ | with_reducible refine r_fld ?_ | with_reducible refine r_fldS ?_ | with_reducible refine r_meth ?_ | with_reducible refine r_methX ?_ | with_reducible refine r_make ?_ | with_reducible refine r_makeS ?_ | with_reducible refine r_addOS ?_ | with_reducible refine r_dgetT ?_ | with_reducible refine r_dputT ?_ | with_reducible refine r_dget2T ?_ | with_reducible refine r_starT ?_ | with_reducible refine r_statT ?_ | with_reducible refine r_par3 ?_ | with_reducible refine r_callR ?_ | with_reducible refine r_callS ?_ | with_reducible refine r_mkO ?_ | with_reducible refine r_raise ?_ | with_reducible refine r_callW ?_ | with_reducible refine r_tru ?_ | with_reducible refine r_var rfl ?_ | with_reducible refine r_c ?_ | with_reducible refine r_op ?_ | with_reducible refine r_cons ?_ | with_reducible refine r_nil ?_
  | with_reducible refine r_cb ?_ | with_reducible refine r_call ?_ | with_reducible refine r_test ?_ | with_reducible refine r_B ?_ | with_reducible refine r_bl ?_ | with_reducible refine r_asg ?_ | with_reducible refine r_asgS ?_
  | with_reducible refine r_ret ?_ | with_reducible refine r_drop ?_ | with_reducible refine r_ifS ?_ | with_reducible refine r_if ?_ | with_reducible refine r_and ?_ | with_reducible refine r_or ?_ | with_reducible refine r_not ?_
  | with_reducible refine r_andV ?_ | with_reducible refine r_orV ?_ | with_reducible refine r_notV ?_ | with_reducible refine r_chain ?_ | with_reducible refine r_sl ?_ | with_reducible refine r_nopart ?_ | with_reducible refine r_part ?_ | with_reducible refine r_partN ?_ | with_reducible refine r_xv ?_ | with_reducible refine r_xo ?_ | with_reducible refine r_mkV ?_
  | with_reducible refine r_intO ?_ | with_reducible refine r_two ?_ | with_reducible refine r_m1 ?_ | with_reducible refine r_bm ?_ | with_reducible refine r_next ?_ | with_reducible refine r_gCons ?_ | with_reducible refine r_gNil ?_ | with_reducible refine r_asgT ?_ | with_reducible refine r_for ?_ | with_reducible refine r_rng1 ?_ | with_reducible refine r_iList ?_ | with_reducible refine r_iAny ?_ | with_reducible refine r_lc ?_ | with_reducible refine r_yes ?_ | with_reducible refine r_gN ?_ | with_reducible refine r_par ?_ | with_reducible refine r_un ?_ | with_reducible refine r_brk ?_ | with_reducible refine r_cont ?_
  | with_reducible refine r_I0 ?_ | with_reducible refine r_U ?_ | with_reducible refine r_addI ?_ | with_reducible refine r_abs ?_ | with_reducible refine r_intI ?_ | with_reducible refine r_max2 ?_ | with_reducible refine r_min2 ?_
  | with_reducible refine r_ltI ?_ | with_reducible refine r_leI ?_ | with_reducible refine r_gtI ?_ | with_reducible refine r_geI ?_ | with_reducible refine r_isN_non ?_ | with_reducible refine r_isN_int ?_ | with_reducible refine r_isN_str ?_ | with_reducible refine r_isN_bl ?_ | with_reducible refine r_isN_ref ?_ | with_reducible refine r_isN ?_ | with_reducible refine r_isB ?_ | with_reducible refine r_isnotN_non ?_ | with_reducible refine r_isnotN_int ?_ | with_reducible refine r_isnotN_str ?_ | with_reducible refine r_isnotN_bl ?_ | with_reducible refine r_isnotN_ref ?_ | with_reducible refine r_isnotN ?_ | with_reducible refine r_isnotB ?_
  | with_reducible refine r_inS ?_ | with_reducible refine r_eqS rfl ?_ | with_reducible refine r_neS rfl ?_ | with_reducible refine r_lst ?_ | with_reducible refine r_tup ?_ | with_reducible refine iteT ?_ | with_reducible refine iteF ?_))
local macro_rules | `(tactic| walk_at "isi") => `(tactic| (first
  | with_reducible refine r_isi_non_int ?_
  | with_reducible refine r_isi_non_str ?_
  | with_reducible refine r_isi_non_list ?_
  | with_reducible refine r_isi_non_tuple ?_
  | with_reducible refine r_isi_non_bool ?_
  | with_reducible refine r_isi_bl_int ?_
  | with_reducible refine r_isi_bl_str ?_
  | with_reducible refine r_isi_bl_list ?_
  | with_reducible refine r_isi_bl_tuple ?_
  | with_reducible refine r_isi_bl_bool ?_
  | with_reducible refine r_isi_int_int ?_
  | with_reducible refine r_isi_int_str ?_
  | with_reducible refine r_isi_int_list ?_
  | with_reducible refine r_isi_int_tuple ?_
  | with_reducible refine r_isi_int_bool ?_
  | with_reducible refine r_isi_str_int ?_
  | with_reducible refine r_isi_str_str ?_
  | with_reducible refine r_isi_str_list ?_
  | with_reducible refine r_isi_str_tuple ?_
  | with_reducible refine r_isi_str_bool ?_
  | with_reducible refine r_isi_lst_int (SqL.of (by assumption)) ?_
  | with_reducible refine r_isi_lst_str (SqL.of (by assumption)) ?_
  | with_reducible refine r_isi_lst_list (SqL.of (by assumption)) ?_
  | with_reducible refine r_isi_lst_tuple (SqL.of (by assumption)) ?_
  | with_reducible refine r_isi_lst_bool (SqL.of (by assumption)) ?_
  | with_reducible refine r_isi_tup_int (SqT.of (by assumption)) ?_
  | with_reducible refine r_isi_tup_str (SqT.of (by assumption)) ?_
  | with_reducible refine r_isi_tup_list (SqT.of (by assumption)) ?_
  | with_reducible refine r_isi_tup_tuple (SqT.of (by assumption)) ?_
  | with_reducible refine r_isi_tup_bool (SqT.of (by assumption)) ?_))
local macro_rules | `(tactic| walk_at "rs") => `(tactic| (first
  | ((with_reducible refine iteTc ?hc ?_); (case hc => rfl)) | ((with_reducible refine iteFc ?hc ?_); (case hc => rfl))
  | walk_at "isi"
  | refine r_ixL (SqL.of (by assumption)) rfl ?_ | refine r_ixL (SqL.of upd_same) rfl ?_
  | refine r_I (C := fun _ j => 0 < j) (by first | decide | assumption | omega) ?_
  | refine r_mulI (.inl ⟨by decide, by decide⟩) ?_ | refine r_mulI (.inr ⟨by decide, by decide⟩) ?_ | refine r_mulI (.inr ⟨by omega, by omega⟩) ?_ | refine r_mulI (.inl ⟨by omega, by omega⟩) ?_
  | refine r_I (wide_div (b := 64) (by decide) (by decide) (by decide) (by decide)) ?_
  | refine r_I (C := CPow) ⟨by decide, by decide, by decide⟩ ?_
  | refine r_setL (by assumption) rfl ?_ | refine r_setL upd_same rfl ?_))
local macro_rules | `(tactic| walk_at "rx") => `(tactic| (walk_at "rd"; (repeat (walk_at "rs"; walk_at "rd"))))

abbrev s_BadFamily_init : Stmt := inClass (top 2) 0
abbrev s_BadCall_init : Stmt := inClass (top 3) 0
abbrev s_BadTest_init : Stmt := inClass (top 4) 0
abbrev s_BadPart_init : Stmt := inClass (top 5) 0
abbrev s_BadSuite_init : Stmt := inClass (top 6) 0
abbrev s_OtherFamily_init : Stmt := inClass (top 7) 0
abbrev s_BadDemand_init : Stmt := inClass (top 8) 0
abbrev s_BadDeed_init : Stmt := inClass (top 9) 0
abbrev s_NoClass_init : Stmt := inClass (top 10) 0
abbrev s_NoCall_init : Stmt := inClass (top 11) 0
abbrev s_NoTest_init : Stmt := inClass (top 12) 0
abbrev s_NoCheck_init : Stmt := inClass (top 13) 0
abbrev s_NothingToUndo_init : Stmt := inClass (top 14) 0
abbrev s_Raised_init : Stmt := inClass (top 15) 0
section
variable {P : Program} {w : World} {K : PySem.W.Frag} {mg : Str → Option Value} {base : Heap} {C f : Addr}
theorem e_BadFamily (T : ExcTG "ValueError" "ValueError.__new__" "ValueError.__init__" (tailOf "ValueError") P K mg "BadFamily" "BadFamily.__init__" s_BadFamily_init C f) (hm : mg "super" = none) (hno : PySem.W.findIn K (.ref C) "at" = some none) : CalG P w K mg base 1 "BadFamily" C (spInit1 "at" K C) := by
  obtain ⟨oc, od, kV, doc, pm, an, c, cc, ct, osl, lk, hcd, U⟩ := T.fn
  refine ⟨_, _, _, _, f, _, ["self", "at"], T.T, T.iC, T.tI, fn_supG (Bb := "ValueError") (nb := "ValueError.__new__") (ib := "ValueError.__init__") (tl := tailOf "ValueError") (D := C) (k := 0) (N := ["self", "at", "__class__"]) (ps := ["self", "at"]) lk hcd (NdefX.nscope_by (by decide +kernel)) hm rfl rfl rfl rfl (fun env => ⟨_, rfl⟩) (fun vs H Q E h => ?_) (fun A outer s H vs Q E h => ?_), Binds.all (fun us hl => match us, hl with | [_, _], _ => rfl), T.gC⟩
  · obtain ⟨a, v, rfl, _⟩ := h
    rfl
  · obtain ⟨a, v, rfl, ha, k⟩ := h
    refine ⟨⟨a, C, [v], rfl, T.T, U, ha⟩, _, pss_one (ps_ostG (Bb := "ValueError") (nb := "ValueError.__new__") (ib := "ValueError.__init__") (tl := tailOf "ValueError") (pv 0) (pv 1)), ?_⟩
    exact r_var rfl (r_var rfl ⟨a, C, rfl, T.T, hno, ha, fun dx h1 h2 => k dx h1 h2⟩)
theorem e_BadCall (T : ExcTG "ValueError" "ValueError.__new__" "ValueError.__init__" (tailOf "ValueError") P K mg "BadCall" "BadCall.__init__" s_BadCall_init C f) (hm : mg "super" = none) (hno : PySem.W.findIn K (.ref C) "at" = some none) : CalG P w K mg base 1 "BadCall" C (spInit1 "at" K C) := by
  obtain ⟨oc, od, kV, doc, pm, an, c, cc, ct, osl, lk, hcd, U⟩ := T.fn
  refine ⟨_, _, _, _, f, _, ["self", "at"], T.T, T.iC, T.tI, fn_supG (Bb := "ValueError") (nb := "ValueError.__new__") (ib := "ValueError.__init__") (tl := tailOf "ValueError") (D := C) (k := 0) (N := ["self", "at", "__class__"]) (ps := ["self", "at"]) lk hcd (NdefX.nscope_by (by decide +kernel)) hm rfl rfl rfl rfl (fun env => ⟨_, rfl⟩) (fun vs H Q E h => ?_) (fun A outer s H vs Q E h => ?_), Binds.all (fun us hl => match us, hl with | [_, _], _ => rfl), T.gC⟩
  · obtain ⟨a, v, rfl, _⟩ := h
    rfl
  · obtain ⟨a, v, rfl, ha, k⟩ := h
    refine ⟨⟨a, C, [v], rfl, T.T, U, ha⟩, _, pss_one (ps_ostG (Bb := "ValueError") (nb := "ValueError.__new__") (ib := "ValueError.__init__") (tl := tailOf "ValueError") (pv 0) (pv 1)), ?_⟩
    exact r_var rfl (r_var rfl ⟨a, C, rfl, T.T, hno, ha, fun dx h1 h2 => k dx h1 h2⟩)
theorem e_BadTest (T : ExcTG "ValueError" "ValueError.__new__" "ValueError.__init__" (tailOf "ValueError") P K mg "BadTest" "BadTest.__init__" s_BadTest_init C f) (hm : mg "super" = none) (hno : PySem.W.findIn K (.ref C) "at" = some none) : CalG P w K mg base 1 "BadTest" C (spInit1 "at" K C) := by
  obtain ⟨oc, od, kV, doc, pm, an, c, cc, ct, osl, lk, hcd, U⟩ := T.fn
  refine ⟨_, _, _, _, f, _, ["self", "at"], T.T, T.iC, T.tI, fn_supG (Bb := "ValueError") (nb := "ValueError.__new__") (ib := "ValueError.__init__") (tl := tailOf "ValueError") (D := C) (k := 0) (N := ["self", "at", "__class__"]) (ps := ["self", "at"]) lk hcd (NdefX.nscope_by (by decide +kernel)) hm rfl rfl rfl rfl (fun env => ⟨_, rfl⟩) (fun vs H Q E h => ?_) (fun A outer s H vs Q E h => ?_), Binds.all (fun us hl => match us, hl with | [_, _], _ => rfl), T.gC⟩
  · obtain ⟨a, v, rfl, _⟩ := h
    rfl
  · obtain ⟨a, v, rfl, ha, k⟩ := h
    refine ⟨⟨a, C, [v], rfl, T.T, U, ha⟩, _, pss_one (ps_ostG (Bb := "ValueError") (nb := "ValueError.__new__") (ib := "ValueError.__init__") (tl := tailOf "ValueError") (pv 0) (pv 1)), ?_⟩
    exact r_var rfl (r_var rfl ⟨a, C, rfl, T.T, hno, ha, fun dx h1 h2 => k dx h1 h2⟩)
theorem e_BadPart (T : ExcTG "ValueError" "ValueError.__new__" "ValueError.__init__" (tailOf "ValueError") P K mg "BadPart" "BadPart.__init__" s_BadPart_init C f) (hm : mg "super" = none) (hno : PySem.W.findIn K (.ref C) "at" = some none) : CalG P w K mg base 1 "BadPart" C (spInit1 "at" K C) := by
  obtain ⟨oc, od, kV, doc, pm, an, c, cc, ct, osl, lk, hcd, U⟩ := T.fn
  refine ⟨_, _, _, _, f, _, ["self", "at"], T.T, T.iC, T.tI, fn_supG (Bb := "ValueError") (nb := "ValueError.__new__") (ib := "ValueError.__init__") (tl := tailOf "ValueError") (D := C) (k := 0) (N := ["self", "at", "__class__"]) (ps := ["self", "at"]) lk hcd (NdefX.nscope_by (by decide +kernel)) hm rfl rfl rfl rfl (fun env => ⟨_, rfl⟩) (fun vs H Q E h => ?_) (fun A outer s H vs Q E h => ?_), Binds.all (fun us hl => match us, hl with | [_, _], _ => rfl), T.gC⟩
  · obtain ⟨a, v, rfl, _⟩ := h
    rfl
  · obtain ⟨a, v, rfl, ha, k⟩ := h
    refine ⟨⟨a, C, [v], rfl, T.T, U, ha⟩, _, pss_one (ps_ostG (Bb := "ValueError") (nb := "ValueError.__new__") (ib := "ValueError.__init__") (tl := tailOf "ValueError") (pv 0) (pv 1)), ?_⟩
    exact r_var rfl (r_var rfl ⟨a, C, rfl, T.T, hno, ha, fun dx h1 h2 => k dx h1 h2⟩)
theorem e_BadSuite (T : ExcTG "ValueError" "ValueError.__new__" "ValueError.__init__" (tailOf "ValueError") P K mg "BadSuite" "BadSuite.__init__" s_BadSuite_init C f) (hm : mg "super" = none) (hno : PySem.W.findIn K (.ref C) "at" = some none) : CalG P w K mg base 1 "BadSuite" C (spInit1 "at" K C) := by
  obtain ⟨oc, od, kV, doc, pm, an, c, cc, ct, osl, lk, hcd, U⟩ := T.fn
  refine ⟨_, _, _, _, f, _, ["self", "at"], T.T, T.iC, T.tI, fn_supG (Bb := "ValueError") (nb := "ValueError.__new__") (ib := "ValueError.__init__") (tl := tailOf "ValueError") (D := C) (k := 0) (N := ["self", "at", "__class__"]) (ps := ["self", "at"]) lk hcd (NdefX.nscope_by (by decide +kernel)) hm rfl rfl rfl rfl (fun env => ⟨_, rfl⟩) (fun vs H Q E h => ?_) (fun A outer s H vs Q E h => ?_), Binds.all (fun us hl => match us, hl with | [_, _], _ => rfl), T.gC⟩
  · obtain ⟨a, v, rfl, _⟩ := h
    rfl
  · obtain ⟨a, v, rfl, ha, k⟩ := h
    refine ⟨⟨a, C, [v], rfl, T.T, U, ha⟩, _, pss_one (ps_ostG (Bb := "ValueError") (nb := "ValueError.__new__") (ib := "ValueError.__init__") (tl := tailOf "ValueError") (pv 0) (pv 1)), ?_⟩
    exact r_var rfl (r_var rfl ⟨a, C, rfl, T.T, hno, ha, fun dx h1 h2 => k dx h1 h2⟩)
theorem e_OtherFamily (T : ExcTG "ValueError" "ValueError.__new__" "ValueError.__init__" (tailOf "ValueError") P K mg "OtherFamily" "OtherFamily.__init__" s_OtherFamily_init C f) (hm : mg "super" = none) (hno : PySem.W.findIn K (.ref C) "at" = some none) : CalG P w K mg base 1 "OtherFamily" C (spInit1 "at" K C) := by
  obtain ⟨oc, od, kV, doc, pm, an, c, cc, ct, osl, lk, hcd, U⟩ := T.fn
  refine ⟨_, _, _, _, f, _, ["self", "at"], T.T, T.iC, T.tI, fn_supG (Bb := "ValueError") (nb := "ValueError.__new__") (ib := "ValueError.__init__") (tl := tailOf "ValueError") (D := C) (k := 0) (N := ["self", "at", "__class__"]) (ps := ["self", "at"]) lk hcd (NdefX.nscope_by (by decide +kernel)) hm rfl rfl rfl rfl (fun env => ⟨_, rfl⟩) (fun vs H Q E h => ?_) (fun A outer s H vs Q E h => ?_), Binds.all (fun us hl => match us, hl with | [_, _], _ => rfl), T.gC⟩
  · obtain ⟨a, v, rfl, _⟩ := h
    rfl
  · obtain ⟨a, v, rfl, ha, k⟩ := h
    refine ⟨⟨a, C, [v], rfl, T.T, U, ha⟩, _, pss_one (ps_ostG (Bb := "ValueError") (nb := "ValueError.__new__") (ib := "ValueError.__init__") (tl := tailOf "ValueError") (pv 0) (pv 1)), ?_⟩
    exact r_var rfl (r_var rfl ⟨a, C, rfl, T.T, hno, ha, fun dx h1 h2 => k dx h1 h2⟩)
theorem e_BadDemand (T : ExcTG "ValueError" "ValueError.__new__" "ValueError.__init__" (tailOf "ValueError") P K mg "BadDemand" "BadDemand.__init__" s_BadDemand_init C f) (hm : mg "super" = none) (hno : PySem.W.findIn K (.ref C) "at" = some none) : CalG P w K mg base 1 "BadDemand" C (spInit1 "at" K C) := by
  obtain ⟨oc, od, kV, doc, pm, an, c, cc, ct, osl, lk, hcd, U⟩ := T.fn
  refine ⟨_, _, _, _, f, _, ["self", "at"], T.T, T.iC, T.tI, fn_supG (Bb := "ValueError") (nb := "ValueError.__new__") (ib := "ValueError.__init__") (tl := tailOf "ValueError") (D := C) (k := 0) (N := ["self", "at", "__class__"]) (ps := ["self", "at"]) lk hcd (NdefX.nscope_by (by decide +kernel)) hm rfl rfl rfl rfl (fun env => ⟨_, rfl⟩) (fun vs H Q E h => ?_) (fun A outer s H vs Q E h => ?_), Binds.all (fun us hl => match us, hl with | [_, _], _ => rfl), T.gC⟩
  · obtain ⟨a, v, rfl, _⟩ := h
    rfl
  · obtain ⟨a, v, rfl, ha, k⟩ := h
    refine ⟨⟨a, C, [v], rfl, T.T, U, ha⟩, _, pss_one (ps_ostG (Bb := "ValueError") (nb := "ValueError.__new__") (ib := "ValueError.__init__") (tl := tailOf "ValueError") (pv 0) (pv 1)), ?_⟩
    exact r_var rfl (r_var rfl ⟨a, C, rfl, T.T, hno, ha, fun dx h1 h2 => k dx h1 h2⟩)
theorem e_BadDeed (T : ExcTG "ValueError" "ValueError.__new__" "ValueError.__init__" (tailOf "ValueError") P K mg "BadDeed" "BadDeed.__init__" s_BadDeed_init C f) (hm : mg "super" = none) (hno : PySem.W.findIn K (.ref C) "at" = some none) : CalG P w K mg base 1 "BadDeed" C (spInit1 "at" K C) := by
  obtain ⟨oc, od, kV, doc, pm, an, c, cc, ct, osl, lk, hcd, U⟩ := T.fn
  refine ⟨_, _, _, _, f, _, ["self", "at"], T.T, T.iC, T.tI, fn_supG (Bb := "ValueError") (nb := "ValueError.__new__") (ib := "ValueError.__init__") (tl := tailOf "ValueError") (D := C) (k := 0) (N := ["self", "at", "__class__"]) (ps := ["self", "at"]) lk hcd (NdefX.nscope_by (by decide +kernel)) hm rfl rfl rfl rfl (fun env => ⟨_, rfl⟩) (fun vs H Q E h => ?_) (fun A outer s H vs Q E h => ?_), Binds.all (fun us hl => match us, hl with | [_, _], _ => rfl), T.gC⟩
  · obtain ⟨a, v, rfl, _⟩ := h
    rfl
  · obtain ⟨a, v, rfl, ha, k⟩ := h
    refine ⟨⟨a, C, [v], rfl, T.T, U, ha⟩, _, pss_one (ps_ostG (Bb := "ValueError") (nb := "ValueError.__new__") (ib := "ValueError.__init__") (tl := tailOf "ValueError") (pv 0) (pv 1)), ?_⟩
    exact r_var rfl (r_var rfl ⟨a, C, rfl, T.T, hno, ha, fun dx h1 h2 => k dx h1 h2⟩)
theorem e_NoClass (T : ExcTG "LookupError" "LookupError.__new__" "LookupError.__init__" (tailOf "LookupError") P K mg "NoClass" "NoClass.__init__" s_NoClass_init C f) (hm : mg "super" = none) (hno : PySem.W.findIn K (.ref C) "name" = some none) : CalG P w K mg base 1 "NoClass" C (spInit1 "name" K C) := by
  obtain ⟨oc, od, kV, doc, pm, an, c, cc, ct, osl, lk, hcd, U⟩ := T.fn
  refine ⟨_, _, _, _, f, _, ["self", "name"], T.T, T.iC, T.tI, fn_supG (Bb := "LookupError") (nb := "LookupError.__new__") (ib := "LookupError.__init__") (tl := tailOf "LookupError") (D := C) (k := 0) (N := ["self", "name", "__class__"]) (ps := ["self", "name"]) lk hcd (NdefX.nscope_by (by decide +kernel)) hm rfl rfl rfl rfl (fun env => ⟨_, rfl⟩) (fun vs H Q E h => ?_) (fun A outer s H vs Q E h => ?_), Binds.all (fun us hl => match us, hl with | [_, _], _ => rfl), T.gC⟩
  · obtain ⟨a, v, rfl, _⟩ := h
    rfl
  · obtain ⟨a, v, rfl, ha, k⟩ := h
    refine ⟨⟨a, C, [v], rfl, T.T, U, ha⟩, _, pss_one (ps_ostG (Bb := "LookupError") (nb := "LookupError.__new__") (ib := "LookupError.__init__") (tl := tailOf "LookupError") (pv 0) (pv 1)), ?_⟩
    exact r_var rfl (r_var rfl ⟨a, C, rfl, T.T, hno, ha, fun dx h1 h2 => k dx h1 h2⟩)
theorem e_NoCall (T : ExcTG "LookupError" "LookupError.__new__" "LookupError.__init__" (tailOf "LookupError") P K mg "NoCall" "NoCall.__init__" s_NoCall_init C f) (hm : mg "super" = none) (hno : PySem.W.findIn K (.ref C) "text" = some none) : CalG P w K mg base 1 "NoCall" C (spInit1 "text" K C) := by
  obtain ⟨oc, od, kV, doc, pm, an, c, cc, ct, osl, lk, hcd, U⟩ := T.fn
  refine ⟨_, _, _, _, f, _, ["self", "text"], T.T, T.iC, T.tI, fn_supG (Bb := "LookupError") (nb := "LookupError.__new__") (ib := "LookupError.__init__") (tl := tailOf "LookupError") (D := C) (k := 0) (N := ["self", "text", "__class__"]) (ps := ["self", "text"]) lk hcd (NdefX.nscope_by (by decide +kernel)) hm rfl rfl rfl rfl (fun env => ⟨_, rfl⟩) (fun vs H Q E h => ?_) (fun A outer s H vs Q E h => ?_), Binds.all (fun us hl => match us, hl with | [_, _], _ => rfl), T.gC⟩
  · obtain ⟨a, v, rfl, _⟩ := h
    rfl
  · obtain ⟨a, v, rfl, ha, k⟩ := h
    refine ⟨⟨a, C, [v], rfl, T.T, U, ha⟩, _, pss_one (ps_ostG (Bb := "LookupError") (nb := "LookupError.__new__") (ib := "LookupError.__init__") (tl := tailOf "LookupError") (pv 0) (pv 1)), ?_⟩
    exact r_var rfl (r_var rfl ⟨a, C, rfl, T.T, hno, ha, fun dx h1 h2 => k dx h1 h2⟩)
theorem e_NoTest (T : ExcTG "LookupError" "LookupError.__new__" "LookupError.__init__" (tailOf "LookupError") P K mg "NoTest" "NoTest.__init__" s_NoTest_init C f) (hm : mg "super" = none) (hno : PySem.W.findIn K (.ref C) "name" = some none) : CalG P w K mg base 1 "NoTest" C (spInit1 "name" K C) := by
  obtain ⟨oc, od, kV, doc, pm, an, c, cc, ct, osl, lk, hcd, U⟩ := T.fn
  refine ⟨_, _, _, _, f, _, ["self", "name"], T.T, T.iC, T.tI, fn_supG (Bb := "LookupError") (nb := "LookupError.__new__") (ib := "LookupError.__init__") (tl := tailOf "LookupError") (D := C) (k := 0) (N := ["self", "name", "__class__"]) (ps := ["self", "name"]) lk hcd (NdefX.nscope_by (by decide +kernel)) hm rfl rfl rfl rfl (fun env => ⟨_, rfl⟩) (fun vs H Q E h => ?_) (fun A outer s H vs Q E h => ?_), Binds.all (fun us hl => match us, hl with | [_, _], _ => rfl), T.gC⟩
  · obtain ⟨a, v, rfl, _⟩ := h
    rfl
  · obtain ⟨a, v, rfl, ha, k⟩ := h
    refine ⟨⟨a, C, [v], rfl, T.T, U, ha⟩, _, pss_one (ps_ostG (Bb := "LookupError") (nb := "LookupError.__new__") (ib := "LookupError.__init__") (tl := tailOf "LookupError") (pv 0) (pv 1)), ?_⟩
    exact r_var rfl (r_var rfl ⟨a, C, rfl, T.T, hno, ha, fun dx h1 h2 => k dx h1 h2⟩)
theorem e_NoCheck (T : ExcTG "LookupError" "LookupError.__new__" "LookupError.__init__" (tailOf "LookupError") P K mg "NoCheck" "NoCheck.__init__" s_NoCheck_init C f) (hm : mg "super" = none) (hno : PySem.W.findIn K (.ref C) "line" = some none) : CalG P w K mg base 1 "NoCheck" C (spInit1 "line" K C) := by
  obtain ⟨oc, od, kV, doc, pm, an, c, cc, ct, osl, lk, hcd, U⟩ := T.fn
  refine ⟨_, _, _, _, f, _, ["self", "line"], T.T, T.iC, T.tI, fn_supG (Bb := "LookupError") (nb := "LookupError.__new__") (ib := "LookupError.__init__") (tl := tailOf "LookupError") (D := C) (k := 0) (N := ["self", "line", "__class__"]) (ps := ["self", "line"]) lk hcd (NdefX.nscope_by (by decide +kernel)) hm rfl rfl rfl rfl (fun env => ⟨_, rfl⟩) (fun vs H Q E h => ?_) (fun A outer s H vs Q E h => ?_), Binds.all (fun us hl => match us, hl with | [_, _], _ => rfl), T.gC⟩
  · obtain ⟨a, v, rfl, _⟩ := h
    rfl
  · obtain ⟨a, v, rfl, ha, k⟩ := h
    refine ⟨⟨a, C, [v], rfl, T.T, U, ha⟩, _, pss_one (ps_ostG (Bb := "LookupError") (nb := "LookupError.__new__") (ib := "LookupError.__init__") (tl := tailOf "LookupError") (pv 0) (pv 1)), ?_⟩
    exact r_var rfl (r_var rfl ⟨a, C, rfl, T.T, hno, ha, fun dx h1 h2 => k dx h1 h2⟩)
theorem e_NothingToUndo (T : ExcTG "LookupError" "LookupError.__new__" "LookupError.__init__" (tailOf "LookupError") P K mg "NothingToUndo" "NothingToUndo.__init__" s_NothingToUndo_init C f) (hm : mg "super" = none) : CalG P w K mg base 1 "NothingToUndo" C (spInit0 K C) := by
  obtain ⟨oc, od, kV, doc, pm, an, c, cc, ct, osl, lk, hcd, U⟩ := T.fn
  refine ⟨_, _, _, _, f, _, ["self"], T.T, T.iC, T.tI, fn_supG (Bb := "LookupError") (nb := "LookupError.__new__") (ib := "LookupError.__init__") (tl := tailOf "LookupError") (D := C) (k := 0) (N := ["self", "__class__"]) (ps := ["self"]) lk hcd (NdefX.nscope_by (by decide +kernel)) hm rfl rfl rfl rfl (fun env => ⟨_, rfl⟩) (fun vs H Q E h => ?_) (fun A outer s H vs Q E h => ?_), Binds.all (fun us hl => match us, hl with | [_], _ => rfl), T.gC⟩
  · obtain ⟨a, rfl, _⟩ := h
    rfl
  · obtain ⟨a, rfl, ha, k⟩ := h
    exact ⟨⟨a, C, [], rfl, T.T, U, ha⟩, _, pss_nil, k⟩
theorem e_Raised (T : ExcTG "RuntimeError" "RuntimeError.__new__" "RuntimeError.__init__" (tailOf "RuntimeError") P K mg "Raised" "Raised.__init__" s_Raised_init C f) (hm : mg "super" = none) (hn1 : PySem.W.findIn K (.ref C) "kind" = some none) (hn2 : PySem.W.findIn K (.ref C) "cause" = some none) : CalG P w K mg base 1 "Raised" C (spInit2 "kind" "cause" K C) := by
  obtain ⟨oc, od, kV, doc, pm, an, c, cc, ct, osl, lk, hcd, U⟩ := T.fn
  refine ⟨_, _, _, _, f, _, ["self", "kind", "cause"], T.T, T.iC, T.tI, fn_supG (Bb := "RuntimeError") (nb := "RuntimeError.__new__") (ib := "RuntimeError.__init__") (tl := tailOf "RuntimeError") (D := C) (k := 0) (N := ["self", "kind", "cause", "__class__"]) (ps := ["self", "kind", "cause"]) lk hcd (NdefX.nscope_by (by decide +kernel)) hm rfl rfl rfl rfl (fun env => ⟨_, rfl⟩) (fun vs H Q E h => ?_) (fun A outer s H vs Q E h => ?_), Binds.all (fun us hl => match us, hl with | [_, _, _], _ => rfl), T.gC⟩
  · obtain ⟨a, v, u, rfl, _⟩ := h
    rfl
  · obtain ⟨a, v, u, rfl, ha, k⟩ := h
    refine ⟨⟨a, C, [v, u], rfl, T.T, U, ha⟩, _, pss_cons (ps_ostG (Bb := "RuntimeError") (nb := "RuntimeError.__new__") (ib := "RuntimeError.__init__") (tl := tailOf "RuntimeError") (pv 0) (pv 1)) (pss_one (ps_ost2 (Bb := "RuntimeError") (nb := "RuntimeError.__new__") (ib := "RuntimeError.__init__") (tl := tailOf "RuntimeError") (pv 0) (pv 2))), ?_⟩
    refine r_seq ?_
    unfold tOstG tOst2
    refine r_var rfl ?_
    refine r_var rfl ?_
    refine ⟨a, C, rfl, T.T, hn1, ha, fun dx h1 h2 => ?_⟩
    dsimp only
    refine r_var rfl ?_
    refine r_var rfl ?_
    exact ⟨a, C, dx, _, rfl, T.T, hn2, upd_same, by rw [upd_ne h2, upd_same], by simp, k dx h1 h2⟩
end
end WP

set_option Elab.async false
set_option linter.all false
set_option maxRecDepth 100000
set_option maxHeartbeats 4000000
namespace WP
open PySem PySem.Spec PyProof.Rows L2
local macro_rules | `(tactic| walk_at "rd") => `(tactic| repeat (first
  | with_reducible refine r_seq ?_ | with_reducible refine r_fld ?_ | with_reducible refine r_fldS ?_ | with_reducible refine r_meth ?_ | with_reducible refine r_methX ?_ | with_reducible refine r_make ?_ | with_reducible refine r_makeS ?_ | with_reducible refine r_addOS ?_ | with_reducible refine r_dgetT ?_ | with_reducible refine r_dputT ?_ | with_reducible refine r_dget2T ?_ | with_reducible refine r_starT ?_ | with_reducible refine r_statT ?_ | with_reducible refine r_par3 ?_ | with_reducible refine r_callR ?_ | with_reducible refine r_callS ?_ | with_reducible refine r_mkO ?_ | with_reducible refine r_raise ?_ | with_reducible refine r_callW ?_ | with_reducible refine r_tru ?_ | with_reducible refine r_var rfl ?_ | with_reducible refine r_c ?_ | with_reducible refine r_op ?_ | with_reducible refine r_cons ?_ | with_reducible refine r_nil ?_
  | with_reducible refine r_cb ?_ | with_reducible refine r_call ?_ | with_reducible refine r_test ?_ | with_reducible refine r_B ?_ | with_reducible refine r_bl ?_ | with_reducible refine r_asg ?_ | with_reducible refine r_asgS ?_
  | with_reducible refine r_ret ?_ | with_reducible refine r_drop ?_ | with_reducible refine r_ifS ?_ | with_reducible refine r_if ?_ | with_reducible refine r_and ?_ | with_reducible refine r_or ?_ | with_reducible refine r_not ?_
  | with_reducible refine r_andV ?_ | with_reducible refine r_orV ?_ | with_reducible refine r_notV ?_ | with_reducible refine r_chain ?_ | with_reducible refine r_sl ?_ | with_reducible refine r_nopart ?_ | with_reducible refine r_part ?_ | with_reducible refine r_partN ?_ | with_reducible refine r_xv ?_ | with_reducible refine r_xo ?_ | with_reducible refine r_mkV ?_
  | with_reducible refine r_intO ?_ | with_reducible refine r_two ?_ | with_reducible refine r_m1 ?_ | with_reducible refine r_bm ?_ | with_reducible refine r_next ?_ | with_reducible refine r_gCons ?_ | with_reducible refine r_gNil ?_ | with_reducible refine r_asgT ?_ | with_reducible refine r_for ?_ | with_reducible refine r_rng1 ?_ | with_reducible refine r_iList ?_ | with_reducible refine r_iAny ?_ | with_reducible refine r_lc ?_ | with_reducible refine r_yes ?_ | with_reducible refine r_gN ?_ | with_reducible refine r_par ?_ | with_reducible refine r_un ?_ | with_reducible refine r_brk ?_ | with_reducible refine r_cont ?_
  | with_reducible refine r_I0 ?_ | with_reducible refine r_U ?_ | with_reducible refine r_addI ?_ | with_reducible refine r_abs ?_ | with_reducible refine r_intI ?_ | with_reducible refine r_max2 ?_ | with_reducible refine r_min2 ?_
  | with_reducible refine r_ltI ?_ | with_reducible refine r_leI ?_ | with_reducible refine r_gtI ?_ | with_reducible refine r_geI ?_ | with_reducible refine r_isN_non ?_ | with_reducible refine r_isN_int ?_ | with_reducible refine r_isN_str ?_ | with_reducible refine r_isN_bl ?_ | with_reducible refine r_isN_ref ?_ | with_reducible refine r_isN ?_ | with_reducible refine r_isB ?_ | with_reducible refine r_isnotN_non ?_ | with_reducible refine r_isnotN_int ?_ | with_reducible refine r_isnotN_str ?_ | with_reducible refine r_isnotN_bl ?_ | with_reducible refine r_isnotN_ref ?_ | with_reducible refine r_isnotN ?_ | with_reducible refine r_isnotB ?_
  | with_reducible refine r_inS ?_ | with_reducible refine r_eqS rfl ?_ | with_reducible refine r_neS rfl ?_ | with_reducible refine r_lst ?_ | with_reducible refine r_tup ?_ | with_reducible refine iteT ?_ | with_reducible refine iteF ?_))
local macro_rules | `(tactic| walk_at "isi") => `(tactic| (first
  | with_reducible refine r_isi_non_int ?_
  | with_reducible refine r_isi_non_str ?_
  | with_reducible refine r_isi_non_list ?_
  | with_reducible refine r_isi_non_tuple ?_
  | with_reducible refine r_isi_non_bool ?_
  | with_reducible refine r_isi_bl_int ?_
  | with_reducible refine r_isi_bl_str ?_
  | with_reducible refine r_isi_bl_list ?_
  | with_reducible refine r_isi_bl_tuple ?_
  | with_reducible refine r_isi_bl_bool ?_
  | with_reducible refine r_isi_int_int ?_
  | with_reducible refine r_isi_int_str ?_
  | with_reducible refine r_isi_int_list ?_
  | with_reducible refine r_isi_int_tuple ?_
  | with_reducible refine r_isi_int_bool ?_
  | with_reducible refine r_isi_str_int ?_
  | with_reducible refine r_isi_str_str ?_
  | with_reducible refine r_isi_str_list ?_
  | with_reducible refine r_isi_str_tuple ?_
  | with_reducible refine r_isi_str_bool ?_
  | with_reducible refine r_isi_lst_int (SqL.of (by assumption)) ?_
  | with_reducible refine r_isi_lst_str (SqL.of (by assumption)) ?_
  | with_reducible refine r_isi_lst_list (SqL.of (by assumption)) ?_
  | with_reducible refine r_isi_lst_tuple (SqL.of (by assumption)) ?_
  | with_reducible refine r_isi_lst_bool (SqL.of (by assumption)) ?_
  | with_reducible refine r_isi_tup_int (SqT.of (by assumption)) ?_
  | with_reducible refine r_isi_tup_str (SqT.of (by assumption)) ?_
  | with_reducible refine r_isi_tup_list (SqT.of (by assumption)) ?_
  | with_reducible refine r_isi_tup_tuple (SqT.of (by assumption)) ?_
  | with_reducible refine r_isi_tup_bool (SqT.of (by assumption)) ?_))
local macro_rules | `(tactic| walk_at "rs") => `(tactic| (first
  | ((with_reducible refine iteTc ?hc ?_); (case hc => rfl)) | ((with_reducible refine iteFc ?hc ?_); (case hc => rfl))
  | walk_at "isi"
  | refine r_ixL (SqL.of (by assumption)) rfl ?_ | refine r_ixL (SqL.of upd_same) rfl ?_
  | refine r_I (C := fun _ j => 0 < j) (by first | decide | assumption | omega) ?_
  | refine r_mulI (.inl ⟨by decide, by decide⟩) ?_ | refine r_mulI (.inr ⟨by decide, by decide⟩) ?_ | refine r_mulI (.inr ⟨by omega, by omega⟩) ?_ | refine r_mulI (.inl ⟨by omega, by omega⟩) ?_
  | refine r_I (wide_div (b := 64) (by decide) (by decide) (by decide) (by decide)) ?_
  | refine r_I (C := CPow) ⟨by decide, by decide, by decide⟩ ?_
  | refine r_setL (by assumption) rfl ?_ | refine r_setL upd_same rfl ?_))
local macro_rules | `(tactic| walk_at "rx") => `(tactic| (walk_at "rd"; (repeat (walk_at "rs"; walk_at "rd"))))

abbrev s_law_classes : Stmt := top 23
abbrev N_law_classes : List Str := ["_law_e", "_law_found"]
theorem sc_law_classes : FnScope N_law_classes ["_law_e"] (defScope s_law_classes) := ⟨rfl, rfl, rfl, by decide +kernel, rfl, by decide +kernel, by decide +kernel⟩
abbrev s_law_bases : Stmt := top 24
abbrev N_law_bases : List Str := ["_law_e", "_law_found"]
theorem sc_law_bases : FnScope N_law_bases ["_law_e"] (defScope s_law_bases) := ⟨rfl, rfl, rfl, by decide +kernel, rfl, by decide +kernel, by decide +kernel⟩
section
variable {P : Program} {w : World} {K : PySem.W.Frag} {mg : Str → Option Value} {base : Heap}
theorem c_classes (F : At K mg "_law_classes" s_law_classes) (B : Bl mg) (TB : Tab K) (g_BadFamily : ∃ u, mg "BadFamily" = some u ∧ RelV (.ref (He.ga K "BadFamily")) u) (g_BadCall : ∃ u, mg "BadCall" = some u ∧ RelV (.ref (He.ga K "BadCall")) u) (g_BadTest : ∃ u, mg "BadTest" = some u ∧ RelV (.ref (He.ga K "BadTest")) u) (g_BadPart : ∃ u, mg "BadPart" = some u ∧ RelV (.ref (He.ga K "BadPart")) u) (g_BadSuite : ∃ u, mg "BadSuite" = some u ∧ RelV (.ref (He.ga K "BadSuite")) u) (g_OtherFamily : ∃ u, mg "OtherFamily" = some u ∧ RelV (.ref (He.ga K "OtherFamily")) u) (g_BadDemand : ∃ u, mg "BadDemand" = some u ∧ RelV (.ref (He.ga K "BadDemand")) u) (g_BadDeed : ∃ u, mg "BadDeed" = some u ∧ RelV (.ref (He.ga K "BadDeed")) u) (g_NoClass : ∃ u, mg "NoClass" = some u ∧ RelV (.ref (He.ga K "NoClass")) u) (g_NoCall : ∃ u, mg "NoCall" = some u ∧ RelV (.ref (He.ga K "NoCall")) u) (g_NoTest : ∃ u, mg "NoTest" = some u ∧ RelV (.ref (He.ga K "NoTest")) u) (g_NoCheck : ∃ u, mg "NoCheck" = some u ∧ RelV (.ref (He.ga K "NoCheck")) u) (g_NothingToUndo : ∃ u, mg "NothingToUndo" = some u ∧ RelV (.ref (He.ga K "NothingToUndo")) u) (g_Raised : ∃ u, mg "Raised" = some u ∧ RelV (.ref (He.ga K "Raised")) u) :
    Cal P w K mg base 1 "_law_classes" (spTell K fun i => (List.range 14).map fun j => decide (j = i)) := by
  refine cal_of F sc_law_classes (fun vs H Q E h => ?_) (fun _ _ _ _ _ _ us hl => match us, hl with | [_], _ => rfl) (fun f cdv A outer s G0 vs Q E hr h => ?_)
  · obtain ⟨a, i, rfl, _⟩ := h
    rfl
  · obtain ⟨a, i, rfl, hi, hE, k⟩ := h
    have e := Evl.Ex.refl G0
    refine ⟨_, (pss_cons (ps_set (i := 1) sc_law_classes.nd rfl (Or.inl rfl) (pe_lst (pa_cons (pe_callB (call_isO K) rfl B.isinstance (by decide +kernel) (pa_cons (pv 0) (pa_cons (C8.pe_gc rfl g_BadFamily) pa_nil))) (pa_cons (pe_callB (call_isO K) rfl B.isinstance (by decide +kernel) (pa_cons (pv 0) (pa_cons (C8.pe_gc rfl g_BadCall) pa_nil))) (pa_cons (pe_callB (call_isO K) rfl B.isinstance (by decide +kernel) (pa_cons (pv 0) (pa_cons (C8.pe_gc rfl g_BadTest) pa_nil))) (pa_cons (pe_callB (call_isO K) rfl B.isinstance (by decide +kernel) (pa_cons (pv 0) (pa_cons (C8.pe_gc rfl g_BadPart) pa_nil))) pa_nil))))))
  (pss_cons (ps_set (i := 1) sc_law_classes.nd rfl (Or.inl rfl) (pe_op (op_addA K) (pv 1) (pe_lst (pa_cons (pe_callB (call_isO K) rfl B.isinstance (by decide +kernel) (pa_cons (pv 0) (pa_cons (C8.pe_gc rfl g_BadSuite) pa_nil))) (pa_cons (pe_callB (call_isO K) rfl B.isinstance (by decide +kernel) (pa_cons (pv 0) (pa_cons (C8.pe_gc rfl g_OtherFamily) pa_nil))) (pa_cons (pe_callB (call_isO K) rfl B.isinstance (by decide +kernel) (pa_cons (pv 0) (pa_cons (C8.pe_gc rfl g_BadDemand) pa_nil))) pa_nil))))))
  (pss_cons (ps_set (i := 1) sc_law_classes.nd rfl (Or.inl rfl) (pe_op (op_addA K) (pv 1) (pe_lst (pa_cons (pe_callB (call_isO K) rfl B.isinstance (by decide +kernel) (pa_cons (pv 0) (pa_cons (C8.pe_gc rfl g_BadDeed) pa_nil))) (pa_cons (pe_callB (call_isO K) rfl B.isinstance (by decide +kernel) (pa_cons (pv 0) (pa_cons (C8.pe_gc rfl g_NoClass) pa_nil))) (pa_cons (pe_callB (call_isO K) rfl B.isinstance (by decide +kernel) (pa_cons (pv 0) (pa_cons (C8.pe_gc rfl g_NoCall) pa_nil))) (pa_cons (pe_callB (call_isO K) rfl B.isinstance (by decide +kernel) (pa_cons (pv 0) (pa_cons (C8.pe_gc rfl g_NoTest) pa_nil))) pa_nil)))))))
  (pss_cons (ps_set (i := 1) sc_law_classes.nd rfl (Or.inl rfl) (pe_op (op_addA K) (pv 1) (pe_lst (pa_cons (pe_callB (call_isO K) rfl B.isinstance (by decide +kernel) (pa_cons (pv 0) (pa_cons (C8.pe_gc rfl g_NoCheck) pa_nil))) (pa_cons (pe_callB (call_isO K) rfl B.isinstance (by decide +kernel) (pa_cons (pv 0) (pa_cons (C8.pe_gc rfl g_NothingToUndo) pa_nil))) (pa_cons (pe_callB (call_isO K) rfl B.isinstance (by decide +kernel) (pa_cons (pv 0) (pa_cons (C8.pe_gc rfl g_Raised) pa_nil))) pa_nil))))))
  (pss_one (ps_ret (pv 1))))))), ?_⟩
    walk_at "rd"
    refine ⟨a, _, _, _, _, rfl, hE, TB.ec i hi, .own _, TB.own i 0 hi (by decide), ?_⟩
    walk_at "rd"
    refine ⟨a, _, _, _, _, rfl, hE, TB.ec i hi, .own _, TB.own i 1 hi (by decide), ?_⟩
    walk_at "rd"
    refine ⟨a, _, _, _, _, rfl, hE, TB.ec i hi, .own _, TB.own i 2 hi (by decide), ?_⟩
    walk_at "rd"
    refine ⟨a, _, _, _, _, rfl, hE, TB.ec i hi, .own _, TB.own i 3 hi (by decide), ?_⟩
    walk_at "rd"
    refine ⟨by show 4 ≤ sizeLine; decide, fun p0 hp0 => ?_⟩
    have x0 : Evl.Ex G0 (upd G0 p0 (.lst [.bl (decide (0 = i)), .bl (decide (1 = i)), .bl (decide (2 = i)), .bl (decide (3 = i))])) := Evl.Ex.new hp0
    have hv0 : upd G0 p0 (.lst [.bl (decide (0 = i)), .bl (decide (1 = i)), .bl (decide (2 = i)), .bl (decide (3 = i))]) p0 = some (.lst [.bl (decide (0 = i)), .bl (decide (1 = i)), .bl (decide (2 = i)), .bl (decide (3 = i))]) := upd_same
    generalize upd G0 p0 (HO.lst _) = G1 at x0 hv0 ⊢
    replace hE := hE.mono x0
    replace e := e.trans x0
    walk_at "rd"
    refine ⟨a, _, _, _, _, rfl, hE, TB.ec i hi, .own _, TB.own i 4 hi (by decide), ?_⟩
    walk_at "rd"
    refine ⟨a, _, _, _, _, rfl, hE, TB.ec i hi, .own _, TB.own i 5 hi (by decide), ?_⟩
    walk_at "rd"
    refine ⟨a, _, _, _, _, rfl, hE, TB.ec i hi, .own _, TB.own i 6 hi (by decide), ?_⟩
    walk_at "rd"
    refine ⟨by show 3 ≤ sizeLine; decide, fun p1 hp1 => ?_⟩
    have x1 : Evl.Ex G1 (upd G1 p1 (.lst [.bl (decide (4 = i)), .bl (decide (5 = i)), .bl (decide (6 = i))])) := Evl.Ex.new hp1
    have hv1 : upd G1 p1 (.lst [.bl (decide (4 = i)), .bl (decide (5 = i)), .bl (decide (6 = i))]) p1 = some (.lst [.bl (decide (4 = i)), .bl (decide (5 = i)), .bl (decide (6 = i))]) := upd_same
    generalize upd G1 p1 (HO.lst _) = G2 at x1 hv1 ⊢
    replace hE := hE.mono x1
    replace e := e.trans x1
    have ha1 := x1 _ _ hv0
    walk_at "rd"
    refine r_addL ha1 hv1 (by show 4 + 3 ≤ sizeLine; decide) fun p2 hp2 => ?_
    have x2 : Evl.Ex G2 (upd G2 p2 (.lst ([.bl (decide (0 = i)), .bl (decide (1 = i)), .bl (decide (2 = i)), .bl (decide (3 = i))] ++ [.bl (decide (4 = i)), .bl (decide (5 = i)), .bl (decide (6 = i))]))) := Evl.Ex.new hp2
    have hv2 : upd G2 p2 (.lst ([.bl (decide (0 = i)), .bl (decide (1 = i)), .bl (decide (2 = i)), .bl (decide (3 = i))] ++ [.bl (decide (4 = i)), .bl (decide (5 = i)), .bl (decide (6 = i))])) p2 = some (.lst [.bl (decide (0 = i)), .bl (decide (1 = i)), .bl (decide (2 = i)), .bl (decide (3 = i)), .bl (decide (4 = i)), .bl (decide (5 = i)), .bl (decide (6 = i))]) := upd_same
    generalize upd G2 p2 (HO.lst _) = G3 at x2 hv2 ⊢
    replace hE := hE.mono x2
    replace e := e.trans x2
    walk_at "rd"
    refine ⟨a, _, _, _, _, rfl, hE, TB.ec i hi, .own _, TB.own i 7 hi (by decide), ?_⟩
    walk_at "rd"
    refine ⟨a, _, _, _, _, rfl, hE, TB.ec i hi, .own _, TB.own i 8 hi (by decide), ?_⟩
    walk_at "rd"
    refine ⟨a, _, _, _, _, rfl, hE, TB.ec i hi, .own _, TB.own i 9 hi (by decide), ?_⟩
    walk_at "rd"
    refine ⟨a, _, _, _, _, rfl, hE, TB.ec i hi, .own _, TB.own i 10 hi (by decide), ?_⟩
    walk_at "rd"
    refine ⟨by show 4 ≤ sizeLine; decide, fun p3 hp3 => ?_⟩
    have x3 : Evl.Ex G3 (upd G3 p3 (.lst [.bl (decide (7 = i)), .bl (decide (8 = i)), .bl (decide (9 = i)), .bl (decide (10 = i))])) := Evl.Ex.new hp3
    have hv3 : upd G3 p3 (.lst [.bl (decide (7 = i)), .bl (decide (8 = i)), .bl (decide (9 = i)), .bl (decide (10 = i))]) p3 = some (.lst [.bl (decide (7 = i)), .bl (decide (8 = i)), .bl (decide (9 = i)), .bl (decide (10 = i))]) := upd_same
    generalize upd G3 p3 (HO.lst _) = G4 at x3 hv3 ⊢
    replace hE := hE.mono x3
    replace e := e.trans x3
    have ha3 := x3 _ _ hv2
    walk_at "rd"
    refine r_addL ha3 hv3 (by show 7 + 4 ≤ sizeLine; decide) fun p4 hp4 => ?_
    have x4 : Evl.Ex G4 (upd G4 p4 (.lst ([.bl (decide (0 = i)), .bl (decide (1 = i)), .bl (decide (2 = i)), .bl (decide (3 = i)), .bl (decide (4 = i)), .bl (decide (5 = i)), .bl (decide (6 = i))] ++ [.bl (decide (7 = i)), .bl (decide (8 = i)), .bl (decide (9 = i)), .bl (decide (10 = i))]))) := Evl.Ex.new hp4
    have hv4 : upd G4 p4 (.lst ([.bl (decide (0 = i)), .bl (decide (1 = i)), .bl (decide (2 = i)), .bl (decide (3 = i)), .bl (decide (4 = i)), .bl (decide (5 = i)), .bl (decide (6 = i))] ++ [.bl (decide (7 = i)), .bl (decide (8 = i)), .bl (decide (9 = i)), .bl (decide (10 = i))])) p4 = some (.lst [.bl (decide (0 = i)), .bl (decide (1 = i)), .bl (decide (2 = i)), .bl (decide (3 = i)), .bl (decide (4 = i)), .bl (decide (5 = i)), .bl (decide (6 = i)), .bl (decide (7 = i)), .bl (decide (8 = i)), .bl (decide (9 = i)), .bl (decide (10 = i))]) := upd_same
    generalize upd G4 p4 (HO.lst _) = G5 at x4 hv4 ⊢
    replace hE := hE.mono x4
    replace e := e.trans x4
    walk_at "rd"
    refine ⟨a, _, _, _, _, rfl, hE, TB.ec i hi, .own _, TB.own i 11 hi (by decide), ?_⟩
    walk_at "rd"
    refine ⟨a, _, _, _, _, rfl, hE, TB.ec i hi, .own _, TB.own i 12 hi (by decide), ?_⟩
    walk_at "rd"
    refine ⟨a, _, _, _, _, rfl, hE, TB.ec i hi, .own _, TB.own i 13 hi (by decide), ?_⟩
    walk_at "rd"
    refine ⟨by show 3 ≤ sizeLine; decide, fun p5 hp5 => ?_⟩
    have x5 : Evl.Ex G5 (upd G5 p5 (.lst [.bl (decide (11 = i)), .bl (decide (12 = i)), .bl (decide (13 = i))])) := Evl.Ex.new hp5
    have hv5 : upd G5 p5 (.lst [.bl (decide (11 = i)), .bl (decide (12 = i)), .bl (decide (13 = i))]) p5 = some (.lst [.bl (decide (11 = i)), .bl (decide (12 = i)), .bl (decide (13 = i))]) := upd_same
    generalize upd G5 p5 (HO.lst _) = G6 at x5 hv5 ⊢
    replace hE := hE.mono x5
    replace e := e.trans x5
    have ha5 := x5 _ _ hv4
    walk_at "rd"
    refine r_addL ha5 hv5 (by show 11 + 3 ≤ sizeLine; decide) fun p6 hp6 => ?_
    have x6 : Evl.Ex G6 (upd G6 p6 (.lst ([.bl (decide (0 = i)), .bl (decide (1 = i)), .bl (decide (2 = i)), .bl (decide (3 = i)), .bl (decide (4 = i)), .bl (decide (5 = i)), .bl (decide (6 = i)), .bl (decide (7 = i)), .bl (decide (8 = i)), .bl (decide (9 = i)), .bl (decide (10 = i))] ++ [.bl (decide (11 = i)), .bl (decide (12 = i)), .bl (decide (13 = i))]))) := Evl.Ex.new hp6
    have hv6 : upd G6 p6 (.lst ([.bl (decide (0 = i)), .bl (decide (1 = i)), .bl (decide (2 = i)), .bl (decide (3 = i)), .bl (decide (4 = i)), .bl (decide (5 = i)), .bl (decide (6 = i)), .bl (decide (7 = i)), .bl (decide (8 = i)), .bl (decide (9 = i)), .bl (decide (10 = i))] ++ [.bl (decide (11 = i)), .bl (decide (12 = i)), .bl (decide (13 = i))])) p6 = some (.lst [.bl (decide (0 = i)), .bl (decide (1 = i)), .bl (decide (2 = i)), .bl (decide (3 = i)), .bl (decide (4 = i)), .bl (decide (5 = i)), .bl (decide (6 = i)), .bl (decide (7 = i)), .bl (decide (8 = i)), .bl (decide (9 = i)), .bl (decide (10 = i)), .bl (decide (11 = i)), .bl (decide (12 = i)), .bl (decide (13 = i))]) := upd_same
    generalize upd G6 p6 (HO.lst _) = G7 at x6 hv6 ⊢
    replace hE := hE.mono x6
    replace e := e.trans x6
    walk_at "rd"
    exact k _ _ e hv6
theorem c_bases (F : At K mg "_law_bases" s_law_bases) (B : Bl mg) (TB : Tab K) (g_WhatpassesError : ∃ u, mg "WhatpassesError" = some u ∧ RelV (.ref (He.ga K "WhatpassesError")) u) (f_ValueError : mg "ValueError" = none) (f_LookupError : mg "LookupError" = none) (f_RuntimeError : mg "RuntimeError" = none) (f_KeyError : mg "KeyError" = none) (f_IndexError : mg "IndexError" = none) (f_NotImplementedError : mg "NotImplementedError" = none) :
    Cal P w K mg base 1 "_law_bases" (spTell K bases7) := by
  refine cal_of F sc_law_bases (fun vs H Q E h => ?_) (fun _ _ _ _ _ _ us hl => match us, hl with | [_], _ => rfl) (fun f cdv A outer s G0 vs Q E hr h => ?_)
  · obtain ⟨a, i, rfl, _⟩ := h
    rfl
  · obtain ⟨a, i, rfl, hi, hE, k⟩ := h
    have e := Evl.Ex.refl G0
    refine ⟨_, (pss_cons (ps_set (i := 1) sc_law_bases.nd rfl (Or.inl rfl) (pe_lst (pa_cons (pe_callB (call_isO K) rfl B.isinstance (by decide +kernel) (pa_cons (pv 0) (pa_cons (C8.pe_gc rfl g_WhatpassesError) pa_nil))) (pa_cons (pe_callB (call_isO K) rfl B.isinstance (by decide +kernel) (pa_cons (pv 0) (pa_cons (pe_bltn (v := .ty "ValueError") rfl f_ValueError (by decide +kernel) rfl) pa_nil))) (pa_cons (pe_callB (call_isO K) rfl B.isinstance (by decide +kernel) (pa_cons (pv 0) (pa_cons (pe_bltn (v := .ty "LookupError") rfl f_LookupError (by decide +kernel) rfl) pa_nil))) pa_nil)))))
  (pss_cons (ps_set (i := 1) sc_law_bases.nd rfl (Or.inl rfl) (pe_op (op_addA K) (pv 1) (pe_lst (pa_cons (pe_callB (call_isO K) rfl B.isinstance (by decide +kernel) (pa_cons (pv 0) (pa_cons (pe_bltn (v := .ty "RuntimeError") rfl f_RuntimeError (by decide +kernel) rfl) pa_nil))) (pa_cons (pe_callB (call_isO K) rfl B.isinstance (by decide +kernel) (pa_cons (pv 0) (pa_cons (pe_bltn (v := .ty "KeyError") rfl f_KeyError (by decide +kernel) rfl) pa_nil))) (pa_cons (pe_callB (call_isO K) rfl B.isinstance (by decide +kernel) (pa_cons (pv 0) (pa_cons (pe_bltn (v := .ty "IndexError") rfl f_IndexError (by decide +kernel) rfl) pa_nil))) pa_nil))))))
  (pss_one (ps_ret (pe_op (op_addA K) (pv 1) (pe_lst (pa_cons (pe_callB (call_isO K) rfl B.isinstance (by decide +kernel) (pa_cons (pv 0) (pa_cons (pe_bltn (v := .ty "NotImplementedError") rfl f_NotImplementedError (by decide +kernel) rfl) pa_nil))) pa_nil))))))), ?_⟩
    walk_at "rd"
    refine ⟨a, _, _, _, _, rfl, hE, TB.ec i hi, .own _, TB.bas i 0 hi (by decide), ?_⟩
    walk_at "rd"
    refine ⟨a, _, _, _, _, rfl, hE, TB.ec i hi, .ty _, TB.bas i 1 hi (by decide), ?_⟩
    walk_at "rd"
    refine ⟨a, _, _, _, _, rfl, hE, TB.ec i hi, .ty _, TB.bas i 2 hi (by decide), ?_⟩
    walk_at "rd"
    refine ⟨by show 3 ≤ sizeLine; decide, fun p0 hp0 => ?_⟩
    have x0 : Evl.Ex G0 (upd G0 p0 (.lst [.bl ((bases7 i).getD 0 false), .bl ((bases7 i).getD 1 false), .bl ((bases7 i).getD 2 false)])) := Evl.Ex.new hp0
    have hv0 : upd G0 p0 (.lst [.bl ((bases7 i).getD 0 false), .bl ((bases7 i).getD 1 false), .bl ((bases7 i).getD 2 false)]) p0 = some (.lst [.bl ((bases7 i).getD 0 false), .bl ((bases7 i).getD 1 false), .bl ((bases7 i).getD 2 false)]) := upd_same
    generalize upd G0 p0 (HO.lst _) = G1 at x0 hv0 ⊢
    replace hE := hE.mono x0
    replace e := e.trans x0
    walk_at "rd"
    refine ⟨a, _, _, _, _, rfl, hE, TB.ec i hi, .ty _, TB.bas i 3 hi (by decide), ?_⟩
    walk_at "rd"
    refine ⟨a, _, _, _, _, rfl, hE, TB.ec i hi, .ty _, TB.bas i 4 hi (by decide), ?_⟩
    walk_at "rd"
    refine ⟨a, _, _, _, _, rfl, hE, TB.ec i hi, .ty _, TB.bas i 5 hi (by decide), ?_⟩
    walk_at "rd"
    refine ⟨by show 3 ≤ sizeLine; decide, fun p1 hp1 => ?_⟩
    have x1 : Evl.Ex G1 (upd G1 p1 (.lst [.bl ((bases7 i).getD 3 false), .bl ((bases7 i).getD 4 false), .bl ((bases7 i).getD 5 false)])) := Evl.Ex.new hp1
    have hv1 : upd G1 p1 (.lst [.bl ((bases7 i).getD 3 false), .bl ((bases7 i).getD 4 false), .bl ((bases7 i).getD 5 false)]) p1 = some (.lst [.bl ((bases7 i).getD 3 false), .bl ((bases7 i).getD 4 false), .bl ((bases7 i).getD 5 false)]) := upd_same
    generalize upd G1 p1 (HO.lst _) = G2 at x1 hv1 ⊢
    replace hE := hE.mono x1
    replace e := e.trans x1
    have ha1 := x1 _ _ hv0
    walk_at "rd"
    refine r_addL ha1 hv1 (by show 3 + 3 ≤ sizeLine; decide) fun p2 hp2 => ?_
    have x2 : Evl.Ex G2 (upd G2 p2 (.lst ([.bl ((bases7 i).getD 0 false), .bl ((bases7 i).getD 1 false), .bl ((bases7 i).getD 2 false)] ++ [.bl ((bases7 i).getD 3 false), .bl ((bases7 i).getD 4 false), .bl ((bases7 i).getD 5 false)]))) := Evl.Ex.new hp2
    have hv2 : upd G2 p2 (.lst ([.bl ((bases7 i).getD 0 false), .bl ((bases7 i).getD 1 false), .bl ((bases7 i).getD 2 false)] ++ [.bl ((bases7 i).getD 3 false), .bl ((bases7 i).getD 4 false), .bl ((bases7 i).getD 5 false)])) p2 = some (.lst [.bl ((bases7 i).getD 0 false), .bl ((bases7 i).getD 1 false), .bl ((bases7 i).getD 2 false), .bl ((bases7 i).getD 3 false), .bl ((bases7 i).getD 4 false), .bl ((bases7 i).getD 5 false)]) := upd_same
    generalize upd G2 p2 (HO.lst _) = G3 at x2 hv2 ⊢
    replace hE := hE.mono x2
    replace e := e.trans x2
    walk_at "rd"
    refine ⟨a, _, _, _, _, rfl, hE, TB.ec i hi, .ty _, TB.bas i 6 hi (by decide), ?_⟩
    walk_at "rd"
    refine ⟨by show 1 ≤ sizeLine; decide, fun p3 hp3 => ?_⟩
    have x3 : Evl.Ex G3 (upd G3 p3 (.lst [.bl ((bases7 i).getD 6 false)])) := Evl.Ex.new hp3
    have hv3 : upd G3 p3 (.lst [.bl ((bases7 i).getD 6 false)]) p3 = some (.lst [.bl ((bases7 i).getD 6 false)]) := upd_same
    generalize upd G3 p3 (HO.lst _) = G4 at x3 hv3 ⊢
    replace hE := hE.mono x3
    replace e := e.trans x3
    have ha3 := x3 _ _ hv2
    walk_at "rd"
    refine r_addL ha3 hv3 (by show 6 + 1 ≤ sizeLine; decide) fun p4 hp4 => ?_
    have x4 : Evl.Ex G4 (upd G4 p4 (.lst ([.bl ((bases7 i).getD 0 false), .bl ((bases7 i).getD 1 false), .bl ((bases7 i).getD 2 false), .bl ((bases7 i).getD 3 false), .bl ((bases7 i).getD 4 false), .bl ((bases7 i).getD 5 false)] ++ [.bl ((bases7 i).getD 6 false)]))) := Evl.Ex.new hp4
    have hv4 : upd G4 p4 (.lst ([.bl ((bases7 i).getD 0 false), .bl ((bases7 i).getD 1 false), .bl ((bases7 i).getD 2 false), .bl ((bases7 i).getD 3 false), .bl ((bases7 i).getD 4 false), .bl ((bases7 i).getD 5 false)] ++ [.bl ((bases7 i).getD 6 false)])) p4 = some (.lst [.bl ((bases7 i).getD 0 false), .bl ((bases7 i).getD 1 false), .bl ((bases7 i).getD 2 false), .bl ((bases7 i).getD 3 false), .bl ((bases7 i).getD 4 false), .bl ((bases7 i).getD 5 false), .bl ((bases7 i).getD 6 false)]) := upd_same
    generalize upd G4 p4 (HO.lst _) = G5 at x4 hv4 ⊢
    replace hE := hE.mono x4
    replace e := e.trans x4
    walk_at "rd"
    exact k _ _ e hv4
end
end WP

set_option Elab.async false
set_option linter.all false
set_option maxRecDepth 100000
set_option maxHeartbeats 4000000
namespace WP
open PySem PySem.Spec PyProof.Rows L2
local macro_rules | `(tactic| walk_at "rd") => `(tactic| repeat (first
  | with_reducible refine r_seq ?_ | with_reducible refine r_fld ?_ | with_reducible refine r_fldS ?_ | with_reducible refine r_meth ?_ | with_reducible refine r_methX ?_ | with_reducible refine r_make ?_ | with_reducible refine r_makeS ?_ | with_reducible refine r_addOS ?_ | with_reducible refine r_dgetT ?_ | with_reducible refine r_dputT ?_ | with_reducible refine r_dget2T ?_ | with_reducible refine r_starT ?_ | with_reducible refine r_statT ?_ | with_reducible refine r_par3 ?_ | with_reducible refine r_callR ?_ | with_reducible refine r_callS ?_ | with_reducible refine r_mkO ?_ | with_reducible refine r_raise ?_ | with_reducible refine r_callW ?_ | with_reducible refine r_tru ?_ | with_reducible refine r_var rfl ?_ | with_reducible refine r_c ?_ | with_reducible refine r_op ?_ | with_reducible refine r_cons ?_ | with_reducible refine r_nil ?_
  | with_reducible refine r_cb ?_ | with_reducible refine r_call ?_ | with_reducible refine r_test ?_ | with_reducible refine r_B ?_ | with_reducible refine r_bl ?_ | with_reducible refine r_asg ?_ | with_reducible refine r_asgS ?_
  | with_reducible refine r_ret ?_ | with_reducible refine r_drop ?_ | with_reducible refine r_ifS ?_ | with_reducible refine r_if ?_ | with_reducible refine r_and ?_ | with_reducible refine r_or ?_ | with_reducible refine r_not ?_
  | with_reducible refine r_andV ?_ | with_reducible refine r_orV ?_ | with_reducible refine r_notV ?_ | with_reducible refine r_chain ?_ | with_reducible refine r_sl ?_ | with_reducible refine r_nopart ?_ | with_reducible refine r_part ?_ | with_reducible refine r_partN ?_ | with_reducible refine r_xv ?_ | with_reducible refine r_xo ?_ | with_reducible refine r_mkV ?_
  | with_reducible refine r_intO ?_ | with_reducible refine r_two ?_ | with_reducible refine r_m1 ?_ | with_reducible refine r_bm ?_ | with_reducible refine r_next ?_ | with_reducible refine r_gCons ?_ | with_reducible refine r_gNil ?_ | with_reducible refine r_asgT ?_ | with_reducible refine r_for ?_ | with_reducible refine r_rng1 ?_ | with_reducible refine r_iList ?_ | with_reducible refine r_iAny ?_ | with_reducible refine r_lc ?_ | with_reducible refine r_yes ?_ | with_reducible refine r_gN ?_ | with_reducible refine r_par ?_ | with_reducible refine r_un ?_ | with_reducible refine r_brk ?_ | with_reducible refine r_cont ?_
  | with_reducible refine r_I0 ?_ | with_reducible refine r_U ?_ | with_reducible refine r_addI ?_ | with_reducible refine r_abs ?_ | with_reducible refine r_intI ?_ | with_reducible refine r_max2 ?_ | with_reducible refine r_min2 ?_
  | with_reducible refine r_ltI ?_ | with_reducible refine r_leI ?_ | with_reducible refine r_gtI ?_ | with_reducible refine r_geI ?_ | with_reducible refine r_isN_non ?_ | with_reducible refine r_isN_int ?_ | with_reducible refine r_isN_str ?_ | with_reducible refine r_isN_bl ?_ | with_reducible refine r_isN_ref ?_ | with_reducible refine r_isN ?_ | with_reducible refine r_isB ?_ | with_reducible refine r_isnotN_non ?_ | with_reducible refine r_isnotN_int ?_ | with_reducible refine r_isnotN_str ?_ | with_reducible refine r_isnotN_bl ?_ | with_reducible refine r_isnotN_ref ?_ | with_reducible refine r_isnotN ?_ | with_reducible refine r_isnotB ?_
  | with_reducible refine r_inS ?_ | with_reducible refine r_eqS rfl ?_ | with_reducible refine r_neS rfl ?_ | with_reducible refine r_lst ?_ | with_reducible refine r_tup ?_ | with_reducible refine iteT ?_ | with_reducible refine iteF ?_))
local macro_rules | `(tactic| walk_at "isi") => `(tactic| (first
  | with_reducible refine r_isi_non_int ?_
  | with_reducible refine r_isi_non_str ?_
  | with_reducible refine r_isi_non_list ?_
  | with_reducible refine r_isi_non_tuple ?_
  | with_reducible refine r_isi_non_bool ?_
  | with_reducible refine r_isi_bl_int ?_
  | with_reducible refine r_isi_bl_str ?_
  | with_reducible refine r_isi_bl_list ?_
  | with_reducible refine r_isi_bl_tuple ?_
  | with_reducible refine r_isi_bl_bool ?_
  | with_reducible refine r_isi_int_int ?_
  | with_reducible refine r_isi_int_str ?_
  | with_reducible refine r_isi_int_list ?_
  | with_reducible refine r_isi_int_tuple ?_
  | with_reducible refine r_isi_int_bool ?_
  | with_reducible refine r_isi_str_int ?_
  | with_reducible refine r_isi_str_str ?_
  | with_reducible refine r_isi_str_list ?_
  | with_reducible refine r_isi_str_tuple ?_
  | with_reducible refine r_isi_str_bool ?_
  | with_reducible refine r_isi_lst_int (SqL.of (by assumption)) ?_
  | with_reducible refine r_isi_lst_str (SqL.of (by assumption)) ?_
  | with_reducible refine r_isi_lst_list (SqL.of (by assumption)) ?_
  | with_reducible refine r_isi_lst_tuple (SqL.of (by assumption)) ?_
  | with_reducible refine r_isi_lst_bool (SqL.of (by assumption)) ?_
  | with_reducible refine r_isi_tup_int (SqT.of (by assumption)) ?_
  | with_reducible refine r_isi_tup_str (SqT.of (by assumption)) ?_
  | with_reducible refine r_isi_tup_list (SqT.of (by assumption)) ?_
  | with_reducible refine r_isi_tup_tuple (SqT.of (by assumption)) ?_
  | with_reducible refine r_isi_tup_bool (SqT.of (by assumption)) ?_))
local macro_rules | `(tactic| walk_at "rs") => `(tactic| (first
  | ((with_reducible refine iteTc ?hc ?_); (case hc => rfl)) | ((with_reducible refine iteFc ?hc ?_); (case hc => rfl))
  | walk_at "isi"
  | refine r_ixL (SqL.of (by assumption)) rfl ?_ | refine r_ixL (SqL.of upd_same) rfl ?_
  | refine r_I (C := fun _ j => 0 < j) (by first | decide | assumption | omega) ?_
  | refine r_mulI (.inl ⟨by decide, by decide⟩) ?_ | refine r_mulI (.inr ⟨by decide, by decide⟩) ?_ | refine r_mulI (.inr ⟨by omega, by omega⟩) ?_ | refine r_mulI (.inl ⟨by omega, by omega⟩) ?_
  | refine r_I (wide_div (b := 64) (by decide) (by decide) (by decide) (by decide)) ?_
  | refine r_I (C := CPow) ⟨by decide, by decide, by decide⟩ ?_
  | refine r_setL (by assumption) rfl ?_ | refine r_setL upd_same rfl ?_))
local macro_rules | `(tactic| walk_at "rx") => `(tactic| (walk_at "rd"; (repeat (walk_at "rs"; walk_at "rd"))))

def spLaw (K : PySem.W.Frag) : Sp := fun vs H Q _ => ∃ (a : Addr) (ns : List Int), vs = [.ref a] ∧ SqL K H a (ns.map V.int) ∧ ns.length ≤ 63 ∧ ∀ H', Q (.bl true) H'
abbrev s_law : Stmt := top 25
abbrev N_law : List Str := ["_law_script", "_law_at", "_law_bag_here", "_law_thing", "_law_cause", "_law_made", "_law_k", "_law_classes_here", "_law_other", "_law_bases_here"]
theorem sc_law : FnScope N_law ["_law_script"] (defScope s_law) := ⟨rfl, rfl, rfl, by decide +kernel, rfl, by decide +kernel, by decide +kernel⟩
/-- no class has such a name among its own -/
structure NoAt (K : PySem.W.Frag) : Prop where
  low : ∀ i, i < 8 → PySem.W.findIn K (.ref (He.ga K (nm14 i))) "at" = some none
  c8 : PySem.W.findIn K (.ref (He.ga K "NoClass")) "name" = some none
  c9 : PySem.W.findIn K (.ref (He.ga K "NoCall")) "text" = some none
  c10 : PySem.W.findIn K (.ref (He.ga K "NoTest")) "name" = some none
  c11 : PySem.W.findIn K (.ref (He.ga K "NoCheck")) "line" = some none
  c13k : PySem.W.findIn K (.ref (He.ga K "Raised")) "kind" = some none
  c13c : PySem.W.findIn K (.ref (He.ga K "Raised")) "cause" = some none
theorem shaped_fit {d : PyData} (h : fit d = true) (hd : d.depth ≤ 3) : SeqAt.shaped d = true := by
  unfold SeqAt.shaped
  rw [fit_lay h, Bool.true_and]
  exact decide_eq_true (by omega)
theorem shaped_bl (bs : List Bool) : SeqAt.shaped (.list (bs.map PyData.bool)) = true := by
  have h : ∀ bs : List Bool, PyData.depthAll (bs.map PyData.bool) = 0 := fun bs => by
    induction bs with
    | nil => rfl
    | cons b r ih => rw [List.map_cons, PyData.depthAll, ih]; rfl
  unfold SeqAt.shaped
  rw [PyData.canLay0, fitAll_lay (shaped_bools bs), Bool.true_and, PyData.depth, h]
  rfl
section
variable {P : Program} {w : World} {K : PySem.W.Frag} {mg : Str → Option Value} {base : Heap}
theorem c_law {f : Addr} {fd : FuncData} (F : FunD K "law" "law" (defArgs s_law) (defBody s_law) (defScope s_law) [] [] f fd) (B : Bl mg) (TB : Tab K) (NA : NoAt K) (f_repr : mg "repr" = none) (c_law_bag : Cal P w K mg base 1 "_law_bag" (spBag K)) (c_law_any : Cal P w K mg base 6 "_law_any" (spAny K 2))
    (c_law_classes : Cal P w K mg base 1 "_law_classes" (spTell K fun i => (List.range 14).map fun j => decide (j = i))) (c_law_bases : Cal P w K mg base 1 "_law_bases" (spTell K bases7))
    (e_BadFamily : CalG P w K mg base 1 "BadFamily" (He.ga K "BadFamily") (spInit1 "at" K (He.ga K "BadFamily"))) (e_BadCall : CalG P w K mg base 1 "BadCall" (He.ga K "BadCall") (spInit1 "at" K (He.ga K "BadCall"))) (e_BadTest : CalG P w K mg base 1 "BadTest" (He.ga K "BadTest") (spInit1 "at" K (He.ga K "BadTest"))) (e_BadPart : CalG P w K mg base 1 "BadPart" (He.ga K "BadPart") (spInit1 "at" K (He.ga K "BadPart"))) (e_BadSuite : CalG P w K mg base 1 "BadSuite" (He.ga K "BadSuite") (spInit1 "at" K (He.ga K "BadSuite"))) (e_OtherFamily : CalG P w K mg base 1 "OtherFamily" (He.ga K "OtherFamily") (spInit1 "at" K (He.ga K "OtherFamily"))) (e_BadDemand : CalG P w K mg base 1 "BadDemand" (He.ga K "BadDemand") (spInit1 "at" K (He.ga K "BadDemand"))) (e_BadDeed : CalG P w K mg base 1 "BadDeed" (He.ga K "BadDeed") (spInit1 "at" K (He.ga K "BadDeed"))) (e_NoClass : CalG P w K mg base 1 "NoClass" (He.ga K "NoClass") (spInit1 "name" K (He.ga K "NoClass"))) (e_NoCall : CalG P w K mg base 1 "NoCall" (He.ga K "NoCall") (spInit1 "text" K (He.ga K "NoCall"))) (e_NoTest : CalG P w K mg base 1 "NoTest" (He.ga K "NoTest") (spInit1 "name" K (He.ga K "NoTest"))) (e_NoCheck : CalG P w K mg base 1 "NoCheck" (He.ga K "NoCheck") (spInit1 "line" K (He.ga K "NoCheck"))) (e_NothingToUndo : CalG P w K mg base 1 "NothingToUndo" (He.ga K "NothingToUndo") (spInit0 K (He.ga K "NothingToUndo"))) (e_Raised : CalG P w K mg base 1 "Raised" (He.ga K "Raised") (spInit2 "kind" "cause" K (He.ga K "Raised"))) : FnG P w K mg base L2.CX0 8 f fd ["_law_script"] (spLaw K) := by
  refine fnokG_of F sc_law (fun vs H Q E h => ?_) (fun cdv A outer s H vs Q E hgd hr h => ?_)
  · obtain ⟨a, ns, rfl, _⟩ := h
    rfl
  · obtain ⟨a, ns, rfl, hs, hns, k⟩ := h
    refine ⟨_, (pss_cons (ps_for PassesOwn.never rfl (pi_range1 rfl B.range (pa_cons (pe_callB (call_max2A rfl) rfl B.max (by decide +kernel) (pa_cons pe_int (pa_cons (pe_callB (call_min2A rfl) rfl B.min (by decide +kernel) (pa_cons pe_int (pa_cons (pe_callB (call_lenA K) rfl B.len (by decide +kernel) (pa_cons (pv 0) pa_nil)) pa_nil))) pa_nil))) pa_nil)) (pg_name (i := 1) sc_law.nd rfl (Or.inl rfl))
   (pss_cons (ps_set (i := 2) sc_law.nd rfl (Or.inl rfl) (pe_cA c_law_bag hr (by omega) rfl (pa_cons (pv 0) (pa_cons (pv 1) pa_nil))))
  (pss_cons (ps_asg (pe_tup (pa_cons (pe_cA c_law_any hr (by omega) rfl (pa_cons (pv 2) (pa_cons pe_int pa_nil))) (pa_cons (pe_cA c_law_any hr (by omega) rfl (pa_cons (pv 2) (pa_cons pe_int pa_nil))) pa_nil))) (pg_tupA K (n := 2) (pg_tup rfl (pgs_cons (pg_name (i := 3) sc_law.nd rfl (Or.inr rfl)) (pgs_cons (pg_name (i := 4) sc_law.nd rfl (Or.inl rfl)) pgs_nil)))))
  (pss_cons (ps_set (i := 5) sc_law.nd rfl (Or.inr rfl) (pe_lst (pa_cons (pe_mkV e_BadFamily hr (by omega) rfl (pa_cons (pv 3) pa_nil)) (pa_cons (pe_mkV e_BadCall hr (by omega) rfl (pa_cons (pv 3) pa_nil)) (pa_cons (pe_mkV e_BadTest hr (by omega) rfl (pa_cons (pv 3) pa_nil)) (pa_cons (pe_mkV e_BadPart hr (by omega) rfl (pa_cons (pv 3) pa_nil)) (pa_cons (pe_mkV e_BadSuite hr (by omega) rfl (pa_cons (pv 3) pa_nil)) (pa_cons (pe_mkV e_OtherFamily hr (by omega) rfl (pa_cons (pv 3) pa_nil)) pa_nil))))))))
  (pss_cons (ps_set (i := 5) sc_law.nd rfl (Or.inr rfl) (pe_op (op_addA K) (pv 5) (pe_lst (pa_cons (pe_mkV e_BadDemand hr (by omega) rfl (pa_cons (pv 3) pa_nil)) (pa_cons (pe_mkV e_BadDeed hr (by omega) rfl (pa_cons (pv 3) pa_nil)) (pa_cons (pe_mkV e_NoClass hr (by omega) rfl (pa_cons (pv 3) pa_nil)) (pa_cons (pe_mkV e_NoCall hr (by omega) rfl (pa_cons (pv 3) pa_nil)) (pa_cons (pe_mkV e_NoTest hr (by omega) rfl (pa_cons (pv 3) pa_nil)) pa_nil))))))))
  (pss_cons (ps_set (i := 5) sc_law.nd rfl (Or.inr rfl) (pe_op (op_addA K) (pv 5) (pe_lst (pa_cons (pe_mkV e_NoCheck hr (by omega) rfl (pa_cons (pv 3) pa_nil)) (pa_cons (pe_mkV0 e_NothingToUndo hr (by omega) rfl) (pa_cons (pe_mkV e_Raised hr (by omega) rfl (pa_cons (pv 3) (pa_cons (pv 4) pa_nil))) pa_nil))))))
  (pss_cons (ps_for PassesOwn.never rfl (pi_range1 rfl B.range (pa_cons pe_int pa_nil)) (pg_name (i := 6) sc_law.nd rfl (Or.inr rfl))
   (pss_cons (ps_set (i := 7) sc_law.nd rfl (Or.inl rfl) (pe_cA c_law_classes hr (by omega) rfl (pa_cons (pe_ix (ix_A K) (pv 5) (pv 6) (fun _ _ => rfl)) pa_nil)))
  (pss_cons (ps_if (pt_cmpR (op_neA K hr.units) (pv 7) (pe_lc (own := [("_law_other", 8)]) rfl sc_law.nd (pi_range1 rfl B.range (pa_cons pe_int pa_nil)) (blkOk_by (N := N_law) (sc := defScope s_law) (by decide +kernel)) (fun _ _ _ _ _ => (pg_name (i := 8) sc_law.nd rfl (Or.inl rfl))) (fun _ _ _ _ _ => pts_nil) (fun _ _ _ _ _ => (pe_cmpR (op_eqA K hr.units) (pv 8) (pv 6) (nomark _)))) (nomark _))
   (pss_one (ps_ret pe_bl))
   pss_nil)
  (pss_cons (ps_set (i := 9) sc_law.nd rfl (Or.inl rfl) (pe_lst (pa_cons (pe_cmpR op_ltA (pv 6) pe_int (nomark _)) (pa_cons (pe_cmpR op_ltA (pv 6) pe_int (nomark _)) (pa_cons (pe_chain op_leA op_ltA pe_int (pv 6) pe_int) (pa_cons (pe_cmpR (op_eqA K hr.units) (pv 6) pe_int (nomark _)) (pa_cons pe_bl (pa_cons pe_bl (pa_cons pe_bl pa_nil)))))))))
  (pss_one (ps_if (pt_cmpR (op_neA K hr.units) (pe_cA c_law_bases hr (by omega) rfl (pa_cons (pe_ix (ix_A K) (pv 5) (pv 6) (fun _ _ => rfl)) pa_nil)) (pv 9) (nomark _))
   (pss_one (ps_ret pe_bl))
   pss_nil))))))
  (pss_cons (ps_if (pt_val (pe_callB (call_anyA K rfl) rfl B.any (by decide +kernel) (pa_cons (pe_lc (own := [("_law_k", 6)]) rfl sc_law.nd (pi_range1 rfl B.range (pa_cons pe_int pa_nil)) (blkOk_by (N := N_law) (sc := defScope s_law) (by decide +kernel)) (fun _ _ _ _ _ => (pg_name (i := 6) sc_law.nd rfl (Or.inl rfl))) (fun _ _ _ _ _ => pts_nil) (fun _ _ _ _ _ => (pe_or (pe_cmpR (op_neA K hr.units) (pe_xo K (pe_ix (ix_A K) (pv 5) (pv 6) (fun _ _ => rfl))) (pv 3) (nomark _)) (pe_one (pe_cmpR (op_neA K hr.units) (pe_callB (call_repr K hgd hr) rfl f_repr (by decide +kernel) (pa_cons (pe_xo K (pe_ix (ix_A K) (pv 5) (pv 6) (fun _ _ => rfl))) pa_nil)) (pe_callB (call_repr K hgd hr) rfl f_repr (by decide +kernel) (pa_cons (pv 3) pa_nil)) (nomark _)))))) pa_nil)))
   (pss_one (ps_ret pe_bl))
   pss_nil)
  (pss_cons (ps_if (PW.pt (pw_or (pt_cmpR (op_neA K hr.units) (pe_xo K (pe_ix (ix_A K) (pv 5) pe_int (fun _ _ => rfl))) (pv 3) (nomark _)) (pw_or (pt_cmpR (op_neA K hr.units) (pe_xo K (pe_ix (ix_A K) (pv 5) pe_int (fun _ _ => rfl))) (pv 3) (nomark _)) (pw_or (pt_cmpR (op_neA K hr.units) (pe_xo K (pe_ix (ix_A K) (pv 5) pe_int (fun _ _ => rfl))) (pv 3) (nomark _)) (pw_or1 (pt_cmpR (op_neA K hr.units) (pe_xo K (pe_ix (ix_A K) (pv 5) pe_int (fun _ _ => rfl))) (pv 3) (nomark _)))))))
   (pss_one (ps_ret pe_bl))
   pss_nil)
  (pss_one (ps_if (PW.pt (pw_or (pt_cmpR (op_neA K hr.units) (pe_tup (pa_cons (pe_xo K (pe_ix (ix_A K) (pv 5) pe_int (fun _ _ => rfl))) (pa_cons (pe_xo K (pe_ix (ix_A K) (pv 5) pe_int (fun _ _ => rfl))) pa_nil))) (pe_tup (pa_cons (pv 3) (pa_cons (pv 4) pa_nil))) (nomark _)) (pw_or1 (pt_cmpR (op_neA K hr.units) (pe_callB (call_repr K hgd hr) rfl f_repr (by decide +kernel) (pa_cons (pe_xo K (pe_ix (ix_A K) (pv 5) pe_int (fun _ _ => rfl))) pa_nil)) (pe_callB (call_repr K hgd hr) rfl f_repr (by decide +kernel) (pa_cons (pv 4) pa_nil)) (nomark _)))))
   (pss_one (ps_ret pe_bl))
   pss_nil)))))))))))
  (pss_one (ps_ret pe_bl))), ?_⟩
    walk_at "rd"
    refine r_lenL hs ?_
    walk_at "rd"
    rw [List.length_map]
    generalize hN : (if (if (ns.length : Int) < 8 then (ns.length : Int) else 8) > 1 then (if (ns.length : Int) < 8 then (ns.length : Int) else 8) else 1) = N
    have hN1 : N ≤ 63 := by rw [← hN]; split <;> split <;> omega
    have hN0 : 0 ≤ N := by rw [← hN]; split <;> split <;> omega
    refine ⟨_, rfl, by omega, by omega, for_range (lo := 0) (n := N.toNat) (fun i σ H' => (∃ u1 u2 u3 u4 u5 u6 u7 u8 u9 : Option V, σ = [some (.ref a), u1, u2, u3, u4, u5, u6, u7, u8, u9]) ∧ Evl.Ex H H') ?_ ?_ ?_⟩
    · exact ⟨⟨_, _, _, _, _, _, _, _, _, rfl⟩, Evl.Ex.refl _⟩
    · rintro i0 σ H0 hi0 ⟨⟨u1, u2, u3, u4, u5, u6, u7, u8, u9, rfl⟩, e0⟩
      walk_at "rd"
      refine ⟨a, ns, i0, by rw [Int.zero_add]; rfl, Evl.ex_l e0 hs, by omega, hns, fun b l hb hl => ?_⟩
      have eb : hid b (upd H0 b (.lst l)) = H0 := hid_start hb
      generalize hH1 : upd H0 b (.lst l) = H1 at eb
      have b1 : Bag b 0 H1 := ⟨l, by rw [← hH1]; exact upd_same, hl⟩
      clear hH1
      walk_at "rd"
      refine ⟨b, 0, rfl, b1, by decide, fun v1 H2 hv1 r2 => ?_⟩
      replace hv1 := Dw.mono (nov_hidb b1.some) (Nat.le_refl _) hv1
      walk_at "rd"
      refine ⟨b, _, rfl, r2.bag, by simp [anyCost], fun v2 H3 hv2 r3 => ?_⟩
      replace hv2 := Dw.mono ((nov_hidb r2.bag.some).trans hid_ex) (Nat.le_refl _) hv2
      replace hv1 := Dw.mono (r3.ex.trans hid_ex) (Nat.le_refl _) hv1
      have e3 : Evl.Ex H H3 := e0.trans (by rw [← eb]; exact ((r2.trans r3).ex.trans hid_ex))
      clear r2 r3 b1 eb e0
      obtain ⟨d1, hd1, hf1, hp1, hs1, hn1, hz1⟩ := hv1
      obtain ⟨d2, hd2, hf2, hp2, hs2, hn2, hz2⟩ := hv2
      have hz1 : d1.shown.length ≤ sizeLine := Nat.le_trans hz1 (by decide)
      have hz2 : d2.shown.length ≤ sizeLine := Nat.le_trans hz2 (by decide)
      walk_at "rd"
      refine ⟨by show 2 ≤ sizeLine; decide, fun pt hpt => ?_⟩
      have J0e : Evl.Ex H3 (upd H3 pt (.tup [v1, v2])) := Evl.Ex.new hpt
      refine r_gTup (SqT.of upd_same) rfl ?_
      generalize upd H3 pt (HO.tup _) = J0 at J0e ⊢
      walk_at "rd"
      refine mkv1 fun a0 J1 q0 xJ1 => ?_
      replace J0e := J0e.trans xJ1
      walk_at "rd"
      refine mkv1 fun a1 J2 q1 xJ2 => ?_
      replace J0e := J0e.trans xJ2
      replace q0 := q0.mono xJ2
      walk_at "rd"
      refine mkv1 fun a2 J3 q2 xJ3 => ?_
      replace J0e := J0e.trans xJ3
      replace q0 := q0.mono xJ3
      replace q1 := q1.mono xJ3
      walk_at "rd"
      refine mkv1 fun a3 J4 q3 xJ4 => ?_
      replace J0e := J0e.trans xJ4
      replace q0 := q0.mono xJ4
      replace q1 := q1.mono xJ4
      replace q2 := q2.mono xJ4
      walk_at "rd"
      refine mkv1 fun a4 J5 q4 xJ5 => ?_
      replace J0e := J0e.trans xJ5
      replace q0 := q0.mono xJ5
      replace q1 := q1.mono xJ5
      replace q2 := q2.mono xJ5
      replace q3 := q3.mono xJ5
      walk_at "rd"
      refine mkv1 fun a5 J6 q5 xJ6 => ?_
      replace J0e := J0e.trans xJ6
      replace q0 := q0.mono xJ6
      replace q1 := q1.mono xJ6
      replace q2 := q2.mono xJ6
      replace q3 := q3.mono xJ6
      replace q4 := q4.mono xJ6
      walk_at "rd"
      refine ⟨by show 6 ≤ sizeLine; decide, fun pJ7 hJ7 => ?_⟩
      have xJ7 : Evl.Ex J6 (upd J6 pJ7 (.lst [.ref a0, .ref a1, .ref a2, .ref a3, .ref a4, .ref a5])) := Evl.Ex.new hJ7
      have hl : upd J6 pJ7 (.lst [.ref a0, .ref a1, .ref a2, .ref a3, .ref a4, .ref a5]) pJ7 = some (.lst [.ref a0, .ref a1, .ref a2, .ref a3, .ref a4, .ref a5]) := upd_same
      generalize upd J6 pJ7 (HO.lst _) = J7 at xJ7 hl ⊢
      replace J0e := J0e.trans xJ7
      replace q0 := q0.mono xJ7
      replace q1 := q1.mono xJ7
      replace q2 := q2.mono xJ7
      replace q3 := q3.mono xJ7
      replace q4 := q4.mono xJ7
      replace q5 := q5.mono xJ7
      walk_at "rd"
      refine mkv1 fun a6 J8 q6 xJ8 => ?_
      replace J0e := J0e.trans xJ8
      replace q0 := q0.mono xJ8
      replace q1 := q1.mono xJ8
      replace q2 := q2.mono xJ8
      replace q3 := q3.mono xJ8
      replace q4 := q4.mono xJ8
      replace q5 := q5.mono xJ8
      replace hl := xJ8 _ _ hl
      walk_at "rd"
      refine mkv1 fun a7 J9 q7 xJ9 => ?_
      replace J0e := J0e.trans xJ9
      replace q0 := q0.mono xJ9
      replace q1 := q1.mono xJ9
      replace q2 := q2.mono xJ9
      replace q3 := q3.mono xJ9
      replace q4 := q4.mono xJ9
      replace q5 := q5.mono xJ9
      replace q6 := q6.mono xJ9
      replace hl := xJ9 _ _ hl
      walk_at "rd"
      refine mkv1 fun a8 J10 q8 xJ10 => ?_
      replace J0e := J0e.trans xJ10
      replace q0 := q0.mono xJ10
      replace q1 := q1.mono xJ10
      replace q2 := q2.mono xJ10
      replace q3 := q3.mono xJ10
      replace q4 := q4.mono xJ10
      replace q5 := q5.mono xJ10
      replace q6 := q6.mono xJ10
      replace q7 := q7.mono xJ10
      replace hl := xJ10 _ _ hl
      walk_at "rd"
      refine mkv1 fun a9 J11 q9 xJ11 => ?_
      replace J0e := J0e.trans xJ11
      replace q0 := q0.mono xJ11
      replace q1 := q1.mono xJ11
      replace q2 := q2.mono xJ11
      replace q3 := q3.mono xJ11
      replace q4 := q4.mono xJ11
      replace q5 := q5.mono xJ11
      replace q6 := q6.mono xJ11
      replace q7 := q7.mono xJ11
      replace q8 := q8.mono xJ11
      replace hl := xJ11 _ _ hl
      walk_at "rd"
      refine mkv1 fun a10 J12 q10 xJ12 => ?_
      replace J0e := J0e.trans xJ12
      replace q0 := q0.mono xJ12
      replace q1 := q1.mono xJ12
      replace q2 := q2.mono xJ12
      replace q3 := q3.mono xJ12
      replace q4 := q4.mono xJ12
      replace q5 := q5.mono xJ12
      replace q6 := q6.mono xJ12
      replace q7 := q7.mono xJ12
      replace q8 := q8.mono xJ12
      replace q9 := q9.mono xJ12
      replace hl := xJ12 _ _ hl
      walk_at "rd"
      refine ⟨by show 5 ≤ sizeLine; decide, fun pJ13 hJ13 => ?_⟩
      have xJ13 : Evl.Ex J12 (upd J12 pJ13 (.lst [.ref a6, .ref a7, .ref a8, .ref a9, .ref a10])) := Evl.Ex.new hJ13
      have hm : upd J12 pJ13 (.lst [.ref a6, .ref a7, .ref a8, .ref a9, .ref a10]) pJ13 = some (.lst [.ref a6, .ref a7, .ref a8, .ref a9, .ref a10]) := upd_same
      generalize upd J12 pJ13 (HO.lst _) = J13 at xJ13 hm ⊢
      replace J0e := J0e.trans xJ13
      replace q0 := q0.mono xJ13
      replace q1 := q1.mono xJ13
      replace q2 := q2.mono xJ13
      replace q3 := q3.mono xJ13
      replace q4 := q4.mono xJ13
      replace q5 := q5.mono xJ13
      replace q6 := q6.mono xJ13
      replace q7 := q7.mono xJ13
      replace q8 := q8.mono xJ13
      replace q9 := q9.mono xJ13
      replace q10 := q10.mono xJ13
      replace hl := xJ13 _ _ hl
      walk_at "rd"
      refine r_addL hl hm (by show 6 + 5 ≤ sizeLine; decide) fun pJ14 hJ14 => ?_
      clear hl hm
      simp only [List.cons_append, List.nil_append]
      have xJ14 : Evl.Ex J13 (upd J13 pJ14 (.lst [.ref a0, .ref a1, .ref a2, .ref a3, .ref a4, .ref a5, .ref a6, .ref a7, .ref a8, .ref a9, .ref a10])) := Evl.Ex.new hJ14
      have hl : upd J13 pJ14 (.lst [.ref a0, .ref a1, .ref a2, .ref a3, .ref a4, .ref a5, .ref a6, .ref a7, .ref a8, .ref a9, .ref a10]) pJ14 = some (.lst [.ref a0, .ref a1, .ref a2, .ref a3, .ref a4, .ref a5, .ref a6, .ref a7, .ref a8, .ref a9, .ref a10]) := upd_same
      generalize upd J13 pJ14 (HO.lst _) = J14 at xJ14 hl ⊢
      replace J0e := J0e.trans xJ14
      replace q0 := q0.mono xJ14
      replace q1 := q1.mono xJ14
      replace q2 := q2.mono xJ14
      replace q3 := q3.mono xJ14
      replace q4 := q4.mono xJ14
      replace q5 := q5.mono xJ14
      replace q6 := q6.mono xJ14
      replace q7 := q7.mono xJ14
      replace q8 := q8.mono xJ14
      replace q9 := q9.mono xJ14
      replace q10 := q10.mono xJ14
      walk_at "rd"
      refine mkv1 fun a11 J15 q11 xJ15 => ?_
      replace J0e := J0e.trans xJ15
      replace q0 := q0.mono xJ15
      replace q1 := q1.mono xJ15
      replace q2 := q2.mono xJ15
      replace q3 := q3.mono xJ15
      replace q4 := q4.mono xJ15
      replace q5 := q5.mono xJ15
      replace q6 := q6.mono xJ15
      replace q7 := q7.mono xJ15
      replace q8 := q8.mono xJ15
      replace q9 := q9.mono xJ15
      replace q10 := q10.mono xJ15
      replace hl := xJ15 _ _ hl
      walk_at "rd"
      refine mkv0 fun a12 J16 q12 xJ16 => ?_
      replace J0e := J0e.trans xJ16
      replace q0 := q0.mono xJ16
      replace q1 := q1.mono xJ16
      replace q2 := q2.mono xJ16
      replace q3 := q3.mono xJ16
      replace q4 := q4.mono xJ16
      replace q5 := q5.mono xJ16
      replace q6 := q6.mono xJ16
      replace q7 := q7.mono xJ16
      replace q8 := q8.mono xJ16
      replace q9 := q9.mono xJ16
      replace q10 := q10.mono xJ16
      replace q11 := q11.mono xJ16
      replace hl := xJ16 _ _ hl
      walk_at "rd"
      refine mkv2 fun a13 J17 q13 xJ17 => ?_
      replace J0e := J0e.trans xJ17
      replace q0 := q0.mono xJ17
      replace q1 := q1.mono xJ17
      replace q2 := q2.mono xJ17
      replace q3 := q3.mono xJ17
      replace q4 := q4.mono xJ17
      replace q5 := q5.mono xJ17
      replace q6 := q6.mono xJ17
      replace q7 := q7.mono xJ17
      replace q8 := q8.mono xJ17
      replace q9 := q9.mono xJ17
      replace q10 := q10.mono xJ17
      replace q11 := q11.mono xJ17
      replace q12 := q12.mono xJ17
      replace hl := xJ17 _ _ hl
      walk_at "rd"
      refine ⟨by show 3 ≤ sizeLine; decide, fun pJ18 hJ18 => ?_⟩
      have xJ18 : Evl.Ex J17 (upd J17 pJ18 (.lst [.ref a11, .ref a12, .ref a13])) := Evl.Ex.new hJ18
      have hm : upd J17 pJ18 (.lst [.ref a11, .ref a12, .ref a13]) pJ18 = some (.lst [.ref a11, .ref a12, .ref a13]) := upd_same
      generalize upd J17 pJ18 (HO.lst _) = J18 at xJ18 hm ⊢
      replace J0e := J0e.trans xJ18
      replace q0 := q0.mono xJ18
      replace q1 := q1.mono xJ18
      replace q2 := q2.mono xJ18
      replace q3 := q3.mono xJ18
      replace q4 := q4.mono xJ18
      replace q5 := q5.mono xJ18
      replace q6 := q6.mono xJ18
      replace q7 := q7.mono xJ18
      replace q8 := q8.mono xJ18
      replace q9 := q9.mono xJ18
      replace q10 := q10.mono xJ18
      replace q11 := q11.mono xJ18
      replace q12 := q12.mono xJ18
      replace q13 := q13.mono xJ18
      replace hl := xJ18 _ _ hl
      walk_at "rd"
      refine r_addL hl hm (by show 11 + 3 ≤ sizeLine; decide) fun pJ19 hJ19 => ?_
      clear hl hm
      simp only [List.cons_append, List.nil_append]
      have xJ19 : Evl.Ex J18 (upd J18 pJ19 (.lst [.ref a0, .ref a1, .ref a2, .ref a3, .ref a4, .ref a5, .ref a6, .ref a7, .ref a8, .ref a9, .ref a10, .ref a11, .ref a12, .ref a13])) := Evl.Ex.new hJ19
      have hl : upd J18 pJ19 (.lst [.ref a0, .ref a1, .ref a2, .ref a3, .ref a4, .ref a5, .ref a6, .ref a7, .ref a8, .ref a9, .ref a10, .ref a11, .ref a12, .ref a13]) pJ19 = some (.lst [.ref a0, .ref a1, .ref a2, .ref a3, .ref a4, .ref a5, .ref a6, .ref a7, .ref a8, .ref a9, .ref a10, .ref a11, .ref a12, .ref a13]) := upd_same
      generalize upd J18 pJ19 (HO.lst _) = J19 at xJ19 hl ⊢
      replace J0e := J0e.trans xJ19
      replace q0 := q0.mono xJ19
      replace q1 := q1.mono xJ19
      replace q2 := q2.mono xJ19
      replace q3 := q3.mono xJ19
      replace q4 := q4.mono xJ19
      replace q5 := q5.mono xJ19
      replace q6 := q6.mono xJ19
      replace q7 := q7.mono xJ19
      replace q8 := q8.mono xJ19
      replace q9 := q9.mono xJ19
      replace q10 := q10.mono xJ19
      replace q11 := q11.mono xJ19
      replace q12 := q12.mono xJ19
      replace q13 := q13.mono xJ19
      replace hd1 := Dp.mono J0e hd1
      replace hd2 := Dp.mono J0e hd2
      have e4 := e3.trans J0e
      clear xJ1 xJ2 xJ3 xJ4 xJ5 xJ6 xJ7 xJ8 xJ9 xJ10 xJ11 xJ12 xJ13 xJ14 xJ15 xJ16 xJ17 xJ18 xJ19 J0e
      have hall : ∀ i, i < 14 → ∃ x, ([.ref a0, .ref a1, .ref a2, .ref a3, .ref a4, .ref a5, .ref a6, .ref a7, .ref a8, .ref a9, .ref a10, .ref a11, .ref a12, .ref a13] : List V)[i]? = some (.ref x) ∧ ErrAt J19 x (He.ga K (nm14 i)) := by
        intro i hi
        match i, hi with
        | 0, _ => exact ⟨a0, rfl, q0.at⟩
        | 1, _ => exact ⟨a1, rfl, q1.at⟩
        | 2, _ => exact ⟨a2, rfl, q2.at⟩
        | 3, _ => exact ⟨a3, rfl, q3.at⟩
        | 4, _ => exact ⟨a4, rfl, q4.at⟩
        | 5, _ => exact ⟨a5, rfl, q5.at⟩
        | 6, _ => exact ⟨a6, rfl, q6.at⟩
        | 7, _ => exact ⟨a7, rfl, q7.at⟩
        | 8, _ => exact ⟨a8, rfl, q8.at⟩
        | 9, _ => exact ⟨a9, rfl, q9.at⟩
        | 10, _ => exact ⟨a10, rfl, q10.at⟩
        | 11, _ => exact ⟨a11, rfl, q11.at⟩
        | 12, _ => exact ⟨a12, rfl, q12⟩
        | 13, _ => exact ⟨a13, rfl, q13.at⟩
      have hat : ∀ i, i < 8 → ∃ x, ([.ref a0, .ref a1, .ref a2, .ref a3, .ref a4, .ref a5, .ref a6, .ref a7, .ref a8, .ref a9, .ref a10, .ref a11, .ref a12, .ref a13] : List V)[i]? = some (.ref x) ∧ ErrF J19 x (He.ga K (nm14 i)) [("at", v1)] := by
        intro i hi
        match i, hi with
        | 0, _ => exact ⟨a0, rfl, q0⟩
        | 1, _ => exact ⟨a1, rfl, q1⟩
        | 2, _ => exact ⟨a2, rfl, q2⟩
        | 3, _ => exact ⟨a3, rfl, q3⟩
        | 4, _ => exact ⟨a4, rfl, q4⟩
        | 5, _ => exact ⟨a5, rfl, q5⟩
        | 6, _ => exact ⟨a6, rfl, q6⟩
        | 7, _ => exact ⟨a7, rfl, q7⟩
      generalize hml : ([.ref a0, .ref a1, .ref a2, .ref a3, .ref a4, .ref a5, .ref a6, .ref a7, .ref a8, .ref a9, .ref a10, .ref a11, .ref a12, .ref a13] : List V) = ml at hl hall hat ⊢
      have hix : ∀ {x : Addr} {i : Nat}, ml[i]? = some (.ref x) → atI ml (0 + (i : Int)) = some (.ref x) := fun {x i} h => by
        rw [Int.zero_add]
        exact atI_nat h
      walk_at "rd"
      refine ⟨_, rfl, by decide, by decide, for_range (lo := 0) (n := 14) (fun i σ H' => (∃ w6 w7 w8 w9 : Option V, σ = [some (.ref a), some (.int (0 + (i0 : Int))), some (.ref b), some v1, some v2, some (.ref pJ19), w6, w7, w8, w9]) ∧ Evl.Ex J19 H') ?_ ?_ ?_⟩
      · exact ⟨⟨_, _, _, _, rfl⟩, Evl.Ex.refl _⟩
      · rintro i σ G0 hi ⟨⟨w6, w7, w8, w9, rfl⟩, g0⟩
        obtain ⟨x, hx, hE⟩ := hall i hi
        walk_at "rd"
        refine r_ixL (SqL.of (g0 _ _ hl)) (hix hx) ?_
        walk_at "rd"
        refine ⟨x, i, rfl, hi, hE.mono g0, fun L G1 e1 hL => ?_⟩
        replace g0 := g0.trans e1
        walk_at "rd"
        refine ⟨_, rfl, by decide, by decide, fun L2 hL2 => ?_⟩
        refine lc_fun (m := 14) hL2 (by decide) (fun j => .bl (decide (j = i))) (fun _ => rfl) ?_ ?_
        · intro j G2 hj e2 Q' q
          walk_at "rd"
          have ed : decide (V.int (0 + (j : Int)) = V.int (0 + (i : Int))) = decide (j = i) := by
            rw [Int.zero_add, Int.zero_add]
            by_cases h : j = i
            · simp [h]
            · rw [decide_eq_false h, decide_eq_false]
              intro z
              injection z with z
              exact h (by omega)
          rw [ed]
          exact q _ (Evl.Ex.refl _)
        · intro G2 e2 hL3
          replace g0 := g0.trans e2
          refine r_neDF (d := .list (((List.range 14).map fun j => decide (j = i)).map PyData.bool)) (Dp.lst (SqL.of (e2 _ _ hL)) (dp_bools _)) (Dp.lst (SqL.of (hL3.trans (by rw [List.map_map]; rfl))) (dp_bools _)) (shaped_bl _) ?_
          walk_at "rd"
          have E1 : decide ((0 : Int) + (i : Int) < 8) = lowV i := decide_eq_decide.mpr (by omega)
          have E4 : decide (V.int (0 + (i : Int)) = V.int 13) = topR i := decide_eq_decide.mpr ⟨fun z => by injection z with z; omega, fun z => by rw [z]; rfl⟩
          by_cases h8 : 8 ≤ i
          · have E3 : decide ((0 : Int) + (i : Int) < 13) = midL i := by
              unfold midL
              rw [decide_eq_true h8, Bool.true_and]
              exact decide_eq_decide.mpr (by omega)
            refine iteTc (decide_eq_true (by omega)) ?_
            walk_at "rd"
            rw [E1, E3, E4]
            refine ⟨by show 7 ≤ sizeLine; decide, fun p9 hp9 => ?_⟩
            have x9 : Evl.Ex G2 (upd G2 p9 (.lst ((bases7 i).map V.bl))) := Evl.Ex.new hp9
            have hv9 : upd G2 p9 (.lst ((bases7 i).map V.bl)) p9 = some (.lst ((bases7 i).map V.bl)) := upd_same
            have g3 := g0.trans x9
            have eG : upd G2 p9 (HO.lst [V.bl (lowV i), V.bl (lowV i), V.bl (midL i), V.bl (topR i), V.bl false, V.bl false, V.bl false]) = upd G2 p9 (.lst ((bases7 i).map V.bl)) := rfl
            rw [eG]
            generalize upd G2 p9 (HO.lst _) = G3 at g3 hv9 ⊢
            walk_at "rd"
            refine r_ixL (SqL.of (g3 _ _ hl)) (hix hx) ?_
            walk_at "rd"
            refine ⟨x, i, rfl, hi, hE.mono g3, fun L4 G4 e4' hL4 => ?_⟩
            walk_at "rd"
            refine r_neDF (d := .list ((bases7 i).map PyData.bool)) (Dp.lst (SqL.of hL4) (dp_bools _)) (Dp.lst (SqL.of (e4' _ _ hv9)) (dp_bools _)) (shaped_bl _) ?_
            walk_at "rd"
            exact ⟨⟨_, _, _, _, rfl⟩, g3.trans e4'⟩
          · have E3 : false = midL i := by
              unfold midL
              rw [decide_eq_false h8]
              rfl
            refine iteFc (decide_eq_false (by omega)) ?_
            walk_at "rd"
            rw [E1, E4]
            refine ⟨by show 7 ≤ sizeLine; decide, fun p9 hp9 => ?_⟩
            have x9 : Evl.Ex G2 (upd G2 p9 (.lst ((bases7 i).map V.bl))) := Evl.Ex.new hp9
            have hv9 : upd G2 p9 (.lst ((bases7 i).map V.bl)) p9 = some (.lst ((bases7 i).map V.bl)) := upd_same
            have g3 := g0.trans x9
            have eG : upd G2 p9 (HO.lst [V.bl (lowV i), V.bl (lowV i), V.bl false, V.bl (topR i), V.bl false, V.bl false, V.bl false]) = upd G2 p9 (.lst ((bases7 i).map V.bl)) := by
              show _ = upd G2 p9 (.lst [V.bl (lowV i), V.bl (lowV i), V.bl (midL i), V.bl (topR i), V.bl false, V.bl false, V.bl false])
              rw [← E3]
            rw [eG]
            generalize upd G2 p9 (HO.lst _) = G3 at g3 hv9 ⊢
            walk_at "rd"
            refine r_ixL (SqL.of (g3 _ _ hl)) (hix hx) ?_
            walk_at "rd"
            refine ⟨x, i, rfl, hi, hE.mono g3, fun L4 G4 e4' hL4 => ?_⟩
            walk_at "rd"
            refine r_neDF (d := .list ((bases7 i).map PyData.bool)) (Dp.lst (SqL.of hL4) (dp_bools _)) (Dp.lst (SqL.of (e4' _ _ hv9)) (dp_bools _)) (shaped_bl _) ?_
            walk_at "rd"
            exact ⟨⟨_, _, _, _, rfl⟩, g3.trans e4'⟩
      · rintro σ G0 ⟨⟨w6, w7, w8, w9, rfl⟩, g0⟩
        have S1 := shaped_fit hf1 (by omega)
        have S2 := shaped_fit hf2 (by omega)
        replace hd1 := Dp.mono g0 hd1
        replace hd2 := Dp.mono g0 hd2
        walk_at "rd"
        refine ⟨_, rfl, by decide, by decide, fun D hD => ?_⟩
        refine lc_fun (m := 8) hD (by decide) (fun _ => .bl false) (fun _ => rfl) ?_ ?_
        · intro j G1 hj e1 Q' q
          obtain ⟨x, hx, dd, hx1, hx2⟩ := hat j hj
          have g1 := g0.trans e1
          replace hd1 := Dp.mono e1 hd1
          walk_at "rd"
          refine r_ixL (SqL.of (g1 _ _ hl)) (hix hx) ?_
          refine ⟨x, _, dd, _, v1, rfl, g1 _ _ hx1, g1 _ _ hx2, TB.xf j (by omega), NA.low j hj, by simp [List.lookup], ?_⟩
          walk_at "rd"
          refine r_neDF hd1 hd1 S1 ?_
          walk_at "rd"
          refine r_ixL (SqL.of (g1 _ _ hl)) (hix hx) ?_
          refine ⟨x, _, dd, _, v1, rfl, g1 _ _ hx1, g1 _ _ hx2, TB.xf j (by omega), NA.low j hj, by simp [List.lookup], ?_⟩
          walk_at "rd"
          refine ⟨v1, d1, rfl, hd1, hs1, hn1, by omega, hz1, ?_⟩
          walk_at "rd"
          refine ⟨v1, d1, rfl, hd1, hs1, hn1, by omega, hz1, ?_⟩
          walk_at "rd"
          rw [decide_eq_true rfl]
          exact q _ (Evl.Ex.refl _)
        · intro G1 e1 hD1
          have g1 := g0.trans e1
          replace hd1 := Dp.mono e1 hd1
          replace hd2 := Dp.mono e1 hd2
          walk_at "rd"
          refine r_any (bs := List.replicate 8 false) hD1 ?_
          obtain ⟨k8, m8, n8⟩ := q8
          obtain ⟨k9, m9, n9⟩ := q9
          obtain ⟨k10, m10, n10⟩ := q10
          obtain ⟨k11, m11, n11⟩ := q11
          obtain ⟨k13, m13, n13⟩ := q13
          rw [show (List.replicate 8 false).any id = false from rfl]
          walk_at "rd"
          refine r_ixL (SqL.of (g1 _ _ hl)) (show atI ml 8 = some (.ref a8) by rw [← hml]; rfl) ?_
          refine ⟨a8, _, k8, _, v1, rfl, g1 _ _ m8, g1 _ _ n8, TB.xf 8 (by decide), NA.c8, by simp [List.lookup], ?_⟩
          walk_at "rd"
          refine r_neDF hd1 hd1 S1 ?_
          walk_at "rd"
          refine r_ixL (SqL.of (g1 _ _ hl)) (show atI ml 9 = some (.ref a9) by rw [← hml]; rfl) ?_
          refine ⟨a9, _, k9, _, v1, rfl, g1 _ _ m9, g1 _ _ n9, TB.xf 9 (by decide), NA.c9, by simp [List.lookup], ?_⟩
          walk_at "rd"
          refine r_neDF hd1 hd1 S1 ?_
          walk_at "rd"
          refine r_ixL (SqL.of (g1 _ _ hl)) (show atI ml 10 = some (.ref a10) by rw [← hml]; rfl) ?_
          refine ⟨a10, _, k10, _, v1, rfl, g1 _ _ m10, g1 _ _ n10, TB.xf 10 (by decide), NA.c10, by simp [List.lookup], ?_⟩
          walk_at "rd"
          refine r_neDF hd1 hd1 S1 ?_
          walk_at "rd"
          refine r_ixL (SqL.of (g1 _ _ hl)) (show atI ml 11 = some (.ref a11) by rw [← hml]; rfl) ?_
          refine ⟨a11, _, k11, _, v1, rfl, g1 _ _ m11, g1 _ _ n11, TB.xf 11 (by decide), NA.c11, by simp [List.lookup], ?_⟩
          walk_at "rd"
          refine r_neDF hd1 hd1 S1 ?_
          walk_at "rd"
          refine r_ixL (SqL.of (g1 _ _ hl)) (show atI ml 13 = some (.ref a13) by rw [← hml]; rfl) ?_
          refine ⟨a13, _, k13, _, v1, rfl, g1 _ _ m13, g1 _ _ n13, TB.xf 13 (by decide), NA.c13k, by rw [lookup_put, if_neg (by decide +kernel), lookup_put, if_pos rfl], ?_⟩
          walk_at "rd"
          refine r_ixL (SqL.of (g1 _ _ hl)) (show atI ml 13 = some (.ref a13) by rw [← hml]; rfl) ?_
          refine ⟨a13, _, k13, _, v2, rfl, g1 _ _ m13, g1 _ _ n13, TB.xf 13 (by decide), NA.c13c, by simp [List.lookup], ?_⟩
          walk_at "rd"
          refine ⟨by show 2 ≤ sizeLine; decide, fun t1 ht1 => ?_⟩
          have x1 : Evl.Ex G1 (upd G1 t1 (.tup [v1, v2])) := Evl.Ex.new ht1
          have hv1 : upd G1 t1 (.tup [v1, v2]) t1 = some (.tup [v1, v2]) := upd_same
          generalize upd G1 t1 (HO.tup _) = G3 at x1 hv1 ⊢
          walk_at "rd"
          refine ⟨by show 2 ≤ sizeLine; decide, fun t2 ht2 => ?_⟩
          have x2 : Evl.Ex G3 (upd G3 t2 (.tup [v1, v2])) := Evl.Ex.new ht2
          have hv2 : upd G3 t2 (.tup [v1, v2]) t2 = some (.tup [v1, v2]) := upd_same
          replace hv1 := x2 _ _ hv1
          generalize upd G3 t2 (HO.tup _) = G4 at x2 hv1 hv2 ⊢
          replace x2 := x1.trans x2
          replace g1 := g1.trans x2
          replace hd1 := Dp.mono x2 hd1
          replace hd2 := Dp.mono x2 hd2
          have hds : DpAll K G4 [v1, v2] [d1, d2] := .cons hd1 (.cons hd2 .nil)
          refine r_neDF (d := .tuple [d1, d2]) (Dp.tup (SqT.of hv1) hds) (Dp.tup (SqT.of hv2) hds) (shaped_fit (by rw [fit, fitAll, fitAll, fitAll, hf1, hf2]; rfl) (by simp only [PyData.depth, PyData.depthAll]; omega)) ?_
          walk_at "rd"
          refine r_ixL (SqL.of (g1 _ _ hl)) (show atI ml 13 = some (.ref a13) by rw [← hml]; rfl) ?_
          refine ⟨a13, _, k13, _, v2, rfl, g1 _ _ m13, g1 _ _ n13, TB.xf 13 (by decide), NA.c13c, by simp [List.lookup], ?_⟩
          walk_at "rd"
          refine ⟨v2, d2, rfl, hd2, hs2, hn2, by omega, hz2, ?_⟩
          walk_at "rd"
          refine ⟨v2, d2, rfl, hd2, hs2, hn2, by omega, hz2, ?_⟩
          walk_at "rd"
          rw [decide_eq_true rfl]
          walk_at "rd"
          exact ⟨⟨_, _, _, _, _, _, _, _, _, rfl⟩, e4.trans g1⟩
    · rintro σ H' ⟨⟨w1, w2, w3, w4, w5, w6, w7, w8, w9, rfl⟩, e⟩
      walk_at "rd"
      exact k _
end
end WP

set_option Elab.async false
set_option linter.all false
set_option maxRecDepth 100000
set_option maxHeartbeats 4000000
namespace WP
open PySem PySem.Spec PyProof.Rows L2
local macro_rules | `(tactic| walk_at "rd") => `(tactic| repeat (first
  | with_reducible refine r_seq ?_ | with_reducible refine r_fld ?_ | with_reducible refine r_fldS ?_ | with_reducible refine r_meth ?_ | with_reducible refine r_methX ?_ | with_reducible refine r_make ?_ | with_reducible refine r_makeS ?_ | with_reducible refine r_addOS ?_ | with_reducible refine r_dgetT ?_ | with_reducible refine r_dputT ?_ | with_reducible refine r_dget2T ?_ | with_reducible refine r_starT ?_ | with_reducible refine r_statT ?_ | with_reducible refine r_par3 ?_ | with_reducible refine r_callR ?_ | with_reducible refine r_callS ?_ | with_reducible refine r_mkO ?_ | with_reducible refine r_raise ?_ | with_reducible refine r_callW ?_ | with_reducible refine r_tru ?_ | with_reducible refine r_var rfl ?_ | with_reducible refine r_c ?_ | with_reducible refine r_op ?_ | with_reducible refine r_cons ?_ | with_reducible refine r_nil ?_
  | with_reducible refine r_cb ?_ | with_reducible refine r_call ?_ | with_reducible refine r_test ?_ | with_reducible refine r_B ?_ | with_reducible refine r_bl ?_ | with_reducible refine r_asg ?_ | with_reducible refine r_asgS ?_
  | with_reducible refine r_ret ?_ | with_reducible refine r_drop ?_ | with_reducible refine r_ifS ?_ | with_reducible refine r_if ?_ | with_reducible refine r_and ?_ | with_reducible refine r_or ?_ | with_reducible refine r_not ?_
  | with_reducible refine r_andV ?_ | with_reducible refine r_orV ?_ | with_reducible refine r_notV ?_ | with_reducible refine r_chain ?_ | with_reducible refine r_sl ?_ | with_reducible refine r_nopart ?_ | with_reducible refine r_part ?_ | with_reducible refine r_partN ?_ | with_reducible refine r_xv ?_ | with_reducible refine r_xo ?_ | with_reducible refine r_mkV ?_
  | with_reducible refine r_intO ?_ | with_reducible refine r_two ?_ | with_reducible refine r_m1 ?_ | with_reducible refine r_bm ?_ | with_reducible refine r_next ?_ | with_reducible refine r_gCons ?_ | with_reducible refine r_gNil ?_ | with_reducible refine r_asgT ?_ | with_reducible refine r_for ?_ | with_reducible refine r_rng1 ?_ | with_reducible refine r_iList ?_ | with_reducible refine r_iAny ?_ | with_reducible refine r_lc ?_ | with_reducible refine r_yes ?_ | with_reducible refine r_gN ?_ | with_reducible refine r_par ?_ | with_reducible refine r_un ?_ | with_reducible refine r_brk ?_ | with_reducible refine r_cont ?_
  | with_reducible refine r_I0 ?_ | with_reducible refine r_U ?_ | with_reducible refine r_addI ?_ | with_reducible refine r_abs ?_ | with_reducible refine r_intI ?_ | with_reducible refine r_max2 ?_ | with_reducible refine r_min2 ?_
  | with_reducible refine r_ltI ?_ | with_reducible refine r_leI ?_ | with_reducible refine r_gtI ?_ | with_reducible refine r_geI ?_ | with_reducible refine r_isN_non ?_ | with_reducible refine r_isN_int ?_ | with_reducible refine r_isN_str ?_ | with_reducible refine r_isN_bl ?_ | with_reducible refine r_isN_ref ?_ | with_reducible refine r_isN ?_ | with_reducible refine r_isB ?_ | with_reducible refine r_isnotN_non ?_ | with_reducible refine r_isnotN_int ?_ | with_reducible refine r_isnotN_str ?_ | with_reducible refine r_isnotN_bl ?_ | with_reducible refine r_isnotN_ref ?_ | with_reducible refine r_isnotN ?_ | with_reducible refine r_isnotB ?_
  | with_reducible refine r_inS ?_ | with_reducible refine r_eqS rfl ?_ | with_reducible refine r_neS rfl ?_ | with_reducible refine r_lst ?_ | with_reducible refine r_tup ?_ | with_reducible refine iteT ?_ | with_reducible refine iteF ?_))
local macro_rules | `(tactic| walk_at "isi") => `(tactic| (first
  | with_reducible refine r_isi_non_int ?_
  | with_reducible refine r_isi_non_str ?_
  | with_reducible refine r_isi_non_list ?_
  | with_reducible refine r_isi_non_tuple ?_
  | with_reducible refine r_isi_non_bool ?_
  | with_reducible refine r_isi_bl_int ?_
  | with_reducible refine r_isi_bl_str ?_
  | with_reducible refine r_isi_bl_list ?_
  | with_reducible refine r_isi_bl_tuple ?_
  | with_reducible refine r_isi_bl_bool ?_
  | with_reducible refine r_isi_int_int ?_
  | with_reducible refine r_isi_int_str ?_
  | with_reducible refine r_isi_int_list ?_
  | with_reducible refine r_isi_int_tuple ?_
  | with_reducible refine r_isi_int_bool ?_
  | with_reducible refine r_isi_str_int ?_
  | with_reducible refine r_isi_str_str ?_
  | with_reducible refine r_isi_str_list ?_
  | with_reducible refine r_isi_str_tuple ?_
  | with_reducible refine r_isi_str_bool ?_
  | with_reducible refine r_isi_lst_int (SqL.of (by assumption)) ?_
  | with_reducible refine r_isi_lst_str (SqL.of (by assumption)) ?_
  | with_reducible refine r_isi_lst_list (SqL.of (by assumption)) ?_
  | with_reducible refine r_isi_lst_tuple (SqL.of (by assumption)) ?_
  | with_reducible refine r_isi_lst_bool (SqL.of (by assumption)) ?_
  | with_reducible refine r_isi_tup_int (SqT.of (by assumption)) ?_
  | with_reducible refine r_isi_tup_str (SqT.of (by assumption)) ?_
  | with_reducible refine r_isi_tup_list (SqT.of (by assumption)) ?_
  | with_reducible refine r_isi_tup_tuple (SqT.of (by assumption)) ?_
  | with_reducible refine r_isi_tup_bool (SqT.of (by assumption)) ?_))
local macro_rules | `(tactic| walk_at "rs") => `(tactic| (first
  | ((with_reducible refine iteTc ?hc ?_); (case hc => rfl)) | ((with_reducible refine iteFc ?hc ?_); (case hc => rfl))
  | walk_at "isi"
  | refine r_ixL (SqL.of (by assumption)) rfl ?_ | refine r_ixL (SqL.of upd_same) rfl ?_
  | refine r_I (C := fun _ j => 0 < j) (by first | decide | assumption | omega) ?_
  | refine r_mulI (.inl ⟨by decide, by decide⟩) ?_ | refine r_mulI (.inr ⟨by decide, by decide⟩) ?_ | refine r_mulI (.inr ⟨by omega, by omega⟩) ?_ | refine r_mulI (.inl ⟨by omega, by omega⟩) ?_
  | refine r_I (wide_div (b := 64) (by decide) (by decide) (by decide) (by decide)) ?_
  | refine r_I (C := CPow) ⟨by decide, by decide, by decide⟩ ?_
  | refine r_setL (by assumption) rfl ?_ | refine r_setL upd_same rfl ?_))
local macro_rules | `(tactic| walk_at "rx") => `(tactic| (walk_at "rd"; (repeat (walk_at "rs"; walk_at "rd"))))

def steps : Nat := 12000
abbrev PW : Program := PySem.Challenge.pw_whatpasses_k11_errors_made
def xd0 : ExD := ⟨"BadFamily", "BadFamily.__init__", s_BadFamily_init⟩
def xd1 : ExD := ⟨"BadCall", "BadCall.__init__", s_BadCall_init⟩
def xd2 : ExD := ⟨"BadTest", "BadTest.__init__", s_BadTest_init⟩
def xd3 : ExD := ⟨"BadPart", "BadPart.__init__", s_BadPart_init⟩
def xd4 : ExD := ⟨"BadSuite", "BadSuite.__init__", s_BadSuite_init⟩
def xd5 : ExD := ⟨"OtherFamily", "OtherFamily.__init__", s_OtherFamily_init⟩
def xd6 : ExD := ⟨"BadDemand", "BadDemand.__init__", s_BadDemand_init⟩
def xd7 : ExD := ⟨"BadDeed", "BadDeed.__init__", s_BadDeed_init⟩
def xd8 : ExD := ⟨"NoClass", "NoClass.__init__", s_NoClass_init⟩
def xd9 : ExD := ⟨"NoCall", "NoCall.__init__", s_NoCall_init⟩
def xd10 : ExD := ⟨"NoTest", "NoTest.__init__", s_NoTest_init⟩
def xd11 : ExD := ⟨"NoCheck", "NoCheck.__init__", s_NoCheck_init⟩
def xd12 : ExD := ⟨"NothingToUndo", "NothingToUndo.__init__", s_NothingToUndo_init⟩
def xd13 : ExD := ⟨"Raised", "Raised.__init__", s_Raised_init⟩
def xs : List ExD := [xd0, xd1, xd2, xd3, xd4, xd5, xd6, xd7, xd8, xd9, xd10, xd11, xd12, xd13]
def noB (K : PySem.W.Frag) : Bool := ((List.range 8).all fun i => He.eqO (PySem.W.findIn K (.ref (He.ga K (nm14 i))) "at") (some none)) && (He.eqO (PySem.W.findIn K (.ref (He.ga K "NoClass")) "name") (some none) && (He.eqO (PySem.W.findIn K (.ref (He.ga K "NoCall")) "text") (some none) && (He.eqO (PySem.W.findIn K (.ref (He.ga K "NoTest")) "name") (some none) && (He.eqO (PySem.W.findIn K (.ref (He.ga K "NoCheck")) "line") (some none) && (He.eqO (PySem.W.findIn K (.ref (He.ga K "Raised")) "kind") (some none) && (He.eqO (PySem.W.findIn K (.ref (He.ga K "Raised")) "cause") (some none)))))))
theorem noB_ok {K : PySem.W.Frag} (h : noB K = true) : NoAt K := by
  unfold noB at h
  obtain ⟨h0, h⟩ := Bool.and_eq_true_iff.mp h
  obtain ⟨h1, h⟩ := Bool.and_eq_true_iff.mp h
  obtain ⟨h2, h⟩ := Bool.and_eq_true_iff.mp h
  obtain ⟨h3, h⟩ := Bool.and_eq_true_iff.mp h
  obtain ⟨h4, h⟩ := Bool.and_eq_true_iff.mp h
  obtain ⟨h5, h6⟩ := Bool.and_eq_true_iff.mp h
  exact ⟨fun i hi => He.eqO_ok (List.all_eq_true.mp h0 i (List.mem_range.mpr hi)), He.eqO_ok h1, He.eqO_ok h2, He.eqO_ok h3, He.eqO_ok h4, He.eqO_ok h5, He.eqO_ok h6⟩
def ex (K : PySem.W.Frag) : Bool := noB K && (tabB K && (excBG "ValueError" "ValueError.__new__" "ValueError.__init__" (tailOf "ValueError") PW K xd0 && (excBG "ValueError" "ValueError.__new__" "ValueError.__init__" (tailOf "ValueError") PW K xd1 && (excBG "ValueError" "ValueError.__new__" "ValueError.__init__" (tailOf "ValueError") PW K xd2 && (excBG "ValueError" "ValueError.__new__" "ValueError.__init__" (tailOf "ValueError") PW K xd3 && (excBG "ValueError" "ValueError.__new__" "ValueError.__init__" (tailOf "ValueError") PW K xd4 && (excBG "ValueError" "ValueError.__new__" "ValueError.__init__" (tailOf "ValueError") PW K xd5 && (excBG "ValueError" "ValueError.__new__" "ValueError.__init__" (tailOf "ValueError") PW K xd6 && (excBG "ValueError" "ValueError.__new__" "ValueError.__init__" (tailOf "ValueError") PW K xd7 && (excBG "LookupError" "LookupError.__new__" "LookupError.__init__" (tailOf "LookupError") PW K xd8 && (excBG "LookupError" "LookupError.__new__" "LookupError.__init__" (tailOf "LookupError") PW K xd9 && (excBG "LookupError" "LookupError.__new__" "LookupError.__init__" (tailOf "LookupError") PW K xd10 && (excBG "LookupError" "LookupError.__new__" "LookupError.__init__" (tailOf "LookupError") PW K xd11 && (excBG "LookupError" "LookupError.__new__" "LookupError.__init__" (tailOf "LookupError") PW K xd12 && (excBG "RuntimeError" "RuntimeError.__new__" "RuntimeError.__init__" (tailOf "RuntimeError") PW K xd13)))))))))))))))
def d_law_take : He.DefD := ⟨("_law_take", none), "_law_take", "_law_take", defArgs s_law_take, defBody s_law_take, defScope s_law_take, [], []⟩
def d_law_of : He.DefD := ⟨("_law_of", none), "_law_of", "_law_of", defArgs s_law_of, defBody s_law_of, defScope s_law_of, [], []⟩
def d_law_word : He.DefD := ⟨("_law_word", none), "_law_word", "_law_word", defArgs s_law_word, defBody s_law_word, defScope s_law_word, [], []⟩
def d_law_class : He.DefD := ⟨("_law_class", none), "_law_class", "_law_class", defArgs s_law_class, defBody s_law_class, defScope s_law_class, [], []⟩
def d_law_bag : He.DefD := ⟨("_law_bag", none), "_law_bag", "_law_bag", defArgs s_law_bag, defBody s_law_bag, defScope s_law_bag, [], []⟩
def d_law_any : He.DefD := ⟨("_law_any", none), "_law_any", "_law_any", defArgs s_law_any, defBody s_law_any, defScope s_law_any, [], []⟩
def d_law_classes : He.DefD := ⟨("_law_classes", none), "_law_classes", "_law_classes", defArgs s_law_classes, defBody s_law_classes, defScope s_law_classes, [], []⟩
def d_law_bases : He.DefD := ⟨("_law_bases", none), "_law_bases", "_law_bases", defArgs s_law_bases, defBody s_law_bases, defScope s_law_bases, [], []⟩
def d_law : He.DefD := ⟨("law", none), "law", "law", defArgs s_law, defBody s_law, defScope s_law, [], []⟩
def fn : List He.DefD := [d_law_take, d_law_of, d_law_word, d_law_class, d_law_bag, d_law_any, d_law_classes, d_law_bases, d_law]
def fa0 : List He.Fa := [.glo "_law_take", .glo "_law_of", .glo "_law_word", .glo "_law_class", .glo "_law_bag", .glo "_law_any", .glo "_law_classes", .glo "_law_bases", .glo "law", .glo "BadFamily", .glo "BadCall", .glo "BadTest", .glo "BadPart", .glo "BadSuite", .glo "OtherFamily", .glo "BadDemand", .glo "BadDeed", .glo "NoClass", .glo "NoCall", .glo "NoTest", .glo "NoCheck", .glo "NothingToUndo", .glo "Raised", .glo "WhatpassesError", .free "super", .free "repr", .free "ValueError", .free "LookupError", .free "RuntimeError", .free "KeyError", .free "IndexError", .free "NotImplementedError"]
def fa : List He.Fa := blFa ++ fa0
def loose : List PySem.Str := ["WhatpassesError", "BadFamily", "BadCall", "BadTest", "BadPart", "BadSuite", "OtherFamily", "BadDemand", "BadDeed", "NoClass", "NoCall", "NoTest", "NoCheck", "NothingToUndo", "Raised", "_law_bag", "_law_take", "_law_of", "_law_word", "_law_class", "_law_any", "_law_classes", "_law_bases"]
abbrev R : PySem.W.OpenRow := PySem.W.OpenLaw.row PySem.Challenge.rw_whatpasses_k11_errors_made
abbrev hk : PySem.W.Hook := hookE2 5 fa fn xs ex
def ob (s : PySem.W.SharedT) : AlE := obsE2 5 fa fn xs ex (HandSHeadRun.getT s)
theorem ob_eq (s : PySem.W.SharedT) : ob s = hk.obs s.abs := obsE2_eq (HandSHeadRun.getT_eq s)
theorem run (w : World) : HandSHeadRun.RunEq R (PySem.W.view R.prog [25]) hk ob steps loose w := by
  intro os
  kernel_rfl
theorem facts {w : World} {K : PySem.W.Frag} {h : Heap} {mg : Str → Option Value} {f : Addr} (X : K.In h) (G : h.Ns mainGlobals mg) (hfa : mg ("law" : Str) = some (.ref f)) (c : He.SaysD fa fn K) (hxs : xs.map (fun d => inW K d.x) = xs.map ExD.val) (hex : ex K = true) :
    ∃ fd : FuncData, (∀ (s : Shared) (v : Value), BindsTo s fd ⟨[v], []⟩ [("_law_script", v)]) ∧ ∀ base : Heap, K.In base → base.Ns mainGlobals mg → FnG PW w K mg base L2.CX0 8 f fd ["_law_script"] (spLaw K) := by
  have B : Bl mg := bl_of X G c
  unfold ex at hex
  obtain ⟨hna, hex⟩ := Bool.and_eq_true_iff.mp hex
  obtain ⟨htb, hex⟩ := Bool.and_eq_true_iff.mp hex
  obtain ⟨hx0, hex⟩ := Bool.and_eq_true_iff.mp hex
  obtain ⟨hx1, hex⟩ := Bool.and_eq_true_iff.mp hex
  obtain ⟨hx2, hex⟩ := Bool.and_eq_true_iff.mp hex
  obtain ⟨hx3, hex⟩ := Bool.and_eq_true_iff.mp hex
  obtain ⟨hx4, hex⟩ := Bool.and_eq_true_iff.mp hex
  obtain ⟨hx5, hex⟩ := Bool.and_eq_true_iff.mp hex
  obtain ⟨hx6, hex⟩ := Bool.and_eq_true_iff.mp hex
  obtain ⟨hx7, hex⟩ := Bool.and_eq_true_iff.mp hex
  obtain ⟨hx8, hex⟩ := Bool.and_eq_true_iff.mp hex
  obtain ⟨hx9, hex⟩ := Bool.and_eq_true_iff.mp hex
  obtain ⟨hx10, hex⟩ := Bool.and_eq_true_iff.mp hex
  obtain ⟨hx11, hex⟩ := Bool.and_eq_true_iff.mp hex
  obtain ⟨hx12, hx13⟩ := Bool.and_eq_true_iff.mp hex
  have NA : NoAt K := noB_ok hna
  have TB : Tab K := tab_of htb
  obtain ⟨fd, F⟩ := c.def_ 8 (d := d_law) rfl
  have e := hfa.symm.trans (He.glo_ok X G (c.fact 25 (f := .glo "law") rfl))
  cases e
  have b := FunD.bindsA (ps := ["_law_script"]) F fun _ _ _ _ _ _ us hl => match us, hl with | [_], _ => rfl
  refine ⟨fd, fun s v => b s [v] rfl, fun base _ _ => ?_⟩
  have hsup : mg "super" = none := He.free_ok X G (c.fact 41 (f := .free "super") rfl)
  have T0 := excTG_of base_ValueError (P := PW) (d := xd0) X G (inW_at hxs 0) hx0 (by decide +kernel)
  have e0 := e_BadFamily (P := PW) (w := w) (base := base) T0 hsup (NA.low 0 (by decide))
  have T1 := excTG_of base_ValueError (P := PW) (d := xd1) X G (inW_at hxs 1) hx1 (by decide +kernel)
  have e1 := e_BadCall (P := PW) (w := w) (base := base) T1 hsup (NA.low 1 (by decide))
  have T2 := excTG_of base_ValueError (P := PW) (d := xd2) X G (inW_at hxs 2) hx2 (by decide +kernel)
  have e2 := e_BadTest (P := PW) (w := w) (base := base) T2 hsup (NA.low 2 (by decide))
  have T3 := excTG_of base_ValueError (P := PW) (d := xd3) X G (inW_at hxs 3) hx3 (by decide +kernel)
  have e3 := e_BadPart (P := PW) (w := w) (base := base) T3 hsup (NA.low 3 (by decide))
  have T4 := excTG_of base_ValueError (P := PW) (d := xd4) X G (inW_at hxs 4) hx4 (by decide +kernel)
  have e4 := e_BadSuite (P := PW) (w := w) (base := base) T4 hsup (NA.low 4 (by decide))
  have T5 := excTG_of base_ValueError (P := PW) (d := xd5) X G (inW_at hxs 5) hx5 (by decide +kernel)
  have e5 := e_OtherFamily (P := PW) (w := w) (base := base) T5 hsup (NA.low 5 (by decide))
  have T6 := excTG_of base_ValueError (P := PW) (d := xd6) X G (inW_at hxs 6) hx6 (by decide +kernel)
  have e6 := e_BadDemand (P := PW) (w := w) (base := base) T6 hsup (NA.low 6 (by decide))
  have T7 := excTG_of base_ValueError (P := PW) (d := xd7) X G (inW_at hxs 7) hx7 (by decide +kernel)
  have e7 := e_BadDeed (P := PW) (w := w) (base := base) T7 hsup (NA.low 7 (by decide))
  have T8 := excTG_of base_LookupError (P := PW) (d := xd8) X G (inW_at hxs 8) hx8 (by decide +kernel)
  have e8 := e_NoClass (P := PW) (w := w) (base := base) T8 hsup NA.c8
  have T9 := excTG_of base_LookupError (P := PW) (d := xd9) X G (inW_at hxs 9) hx9 (by decide +kernel)
  have e9 := e_NoCall (P := PW) (w := w) (base := base) T9 hsup NA.c9
  have T10 := excTG_of base_LookupError (P := PW) (d := xd10) X G (inW_at hxs 10) hx10 (by decide +kernel)
  have e10 := e_NoTest (P := PW) (w := w) (base := base) T10 hsup NA.c10
  have T11 := excTG_of base_LookupError (P := PW) (d := xd11) X G (inW_at hxs 11) hx11 (by decide +kernel)
  have e11 := e_NoCheck (P := PW) (w := w) (base := base) T11 hsup NA.c11
  have T12 := excTG_of base_LookupError (P := PW) (d := xd12) X G (inW_at hxs 12) hx12 (by decide +kernel)
  have e12 := e_NothingToUndo (P := PW) (w := w) (base := base) T12 hsup 
  have T13 := excTG_of base_RuntimeError (P := PW) (d := xd13) X G (inW_at hxs 13) hx13 (by decide +kernel)
  have e13 := e_Raised (P := PW) (w := w) (base := base) T13 hsup NA.c13k NA.c13c
  have take := c_take (P := PW) (w := w) (base := base) (at_of X G c 0 17) B
  have of_ := c_of (P := PW) (w := w) (base := base) (at_of X G c 1 18) B take
  have word := c_word (P := PW) (w := w) (base := base) (at_of X G c 2 19) B take of_
  have cls := c_class (P := PW) (w := w) (base := base) (at_of X G c 3 20) B take of_
  have gl : ∀ {x : Str} (i : Nat), fa[i]? = some (.glo x) → ∃ u, mg x = some u ∧ RelV (.ref (He.ga K x)) u := fun {x} i hi => ⟨_, He.glo_ok X G (c.fact i hi), rfl⟩
  have fr : ∀ {x : Str} (i : Nat), fa[i]? = some (.free x) → mg x = none := fun {x} i hi => He.free_ok X G (c.fact i hi)
  exact c_law F B TB NA (fr 42 rfl) (c_bag (at_of X G c 4 21) B) (c_any (at_of X G c 5 22) B take of_ word cls 2)
    (c_classes (at_of X G c 6 23) B TB (gl 26 rfl) (gl 27 rfl) (gl 28 rfl) (gl 29 rfl) (gl 30 rfl) (gl 31 rfl) (gl 32 rfl) (gl 33 rfl) (gl 34 rfl) (gl 35 rfl) (gl 36 rfl) (gl 37 rfl) (gl 38 rfl) (gl 39 rfl))
    (c_bases (at_of X G c 7 24) B TB (gl 40 rfl) (fr 43 rfl) (fr 44 rfl) (fr 45 rfl) (fr 46 rfl) (fr 47 rfl) (fr 48 rfl))
    e0 e1 e2 e3 e4 e5 e6 e7 e8 e9 e10 e11 e12 e13
end WP
open PySem PySem.W PySem.Calls PyProof.Rows
set_option maxRecDepth 100000 in
set_option maxHeartbeats 0 in
theorem PySem.Challenge.cw_whatpasses_k11_errors_made_holds : PySem.Challenge.rw_whatpasses_k11_errors_made.Holds := by
  w_on; o_law
  refine HandSHeadRun.head_any (r := OpenLaw.row PySem.Challenge.rw_whatpasses_k11_errors_made) (q := view (OpenLaw.row PySem.Challenge.rw_whatpasses_k11_errors_made).prog [25]) (H := WP.hk) (ob := WP.ob) (M := WP.steps) (loose := WP.loose) (d := HandSHeadRun.topDef (OpenLaw.row PySem.Challenge.rw_whatpasses_k11_errors_made).prog 25) (kwd := []) WP.ob_eq
    (by kernel_rfl) (fun s => by kernel_rfl) WP.run (by kernel_rfl) (by kernel_rfl) (by kernel_rfl) (by rfl) (by first | assumption | decide +kernel) (by decide +kernel) ⟨rfl, rfl, rfl, rfl, rfl, by decide +kernel⟩ ?hw ?hc
  case hw => w_witness2
  case hc =>
    refine WP.walk_ofG (l := PySem.Challenge.rw_whatpasses_k11_errors_made) (n := 63) (k := 8) (x := "_law_script") (CX := L2.CX0) rfl (by decide) (by kernel_rfl) ⟨rfl, by decide, by decide⟩ ?F (fun _ _ _ _ z => z)
    intro w mg fa h Y G hmg0
    obtain ⟨K, KX, c, hxs, hex⟩ := Y
    have hmg : mg ("law" : PySem.Str) = some (.ref fa) := by
      have e : (HandSHeadRun.topDef (OpenLaw.row PySem.Challenge.rw_whatpasses_k11_errors_made).prog 25).name = ("law" : PySem.Str) := by kernel_rfl
      rw [← e]
      exact hmg0
    obtain ⟨fd, hb, hF⟩ := WP.facts (w := w) KX G hmg c hxs hex
    exact ⟨K, fd, WP.spLaw K, KX, hb, fun H a ns hl _ hS => ⟨a, ns, rfl, hS, hl, fun _ => rfl⟩, hF⟩
#print axioms PySem.Challenge.cw_whatpasses_k11_errors_made_holds

