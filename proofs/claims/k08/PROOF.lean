import PyProof.Rows.All
import Wide.All
import OpenK.AllK
import Wide.FinOn
import HandS.ForMost
import HandS.Wide
import HandS.WideBits
import HandS.Flow
import HandS.Style
import HandS.IsInst
import HandS.Codes
import HandS.Evl
import HandS.TupAny
import HandS.Walk
import HandS.Defaults
import HandS.WordsExc
import HandS.Head0
import HandS.Head1
import HandS.Head2
import HandS.HeadEnd
import HandS.HeadHook1
import HandS.HeadHook2
import KE.KExcSuper
import HandS.ExcInit
import HandS.Nested
import HandS.ExcField
import HandS.ExcOwn
import HandS.Star
import HandS.Iter
import HandS.Spec
import KE.GoesMore
import KE.GoesEnum
import PyProof.Draws
import PyProof.EnumStmt
import PyProof.EnumFor
import KE.KDictPairs
import HandS.Dict
import PySem.Challenge.RW_whatpasses_k08_call_texts
set_option Elab.async false
set_option linter.all false
set_option maxRecDepth 100000
set_option maxHeartbeats 4000000
namespace WP
open PySem PySem.Spec PyProof.Rows L2

/-! ### rules that take what comes -/
def rAddA (K : PySem.W.Frag) : R2 := fun x y H Q => (∃ i j, x = .int i ∧ y = .int j ∧ Q (.int (i + j)) H) ∨ (∃ i j, x = .str i ∧ y = .str j ∧ i.length + j.length ≤ sizeLine ∧ Q (.str (i ++ j)) H) ∨ rCat x y H Q ∨ rCatT K x y H Q
def rMulA : R2 := fun x y H Q => (∃ i j, x = .int i ∧ y = .int j ∧ CMul i j ∧ Q (.int (i * j)) H) ∨ rRep x y H Q ∨ ∃ z n, x = .str z ∧ y = .int n ∧ MulOk z n ∧ Q (.str (Txt.mul z n)) H
def rLenA (K : PySem.W.Frag) : List V → Hp → VK → Prop := fun xs H Q => ∃ x n, xs = [x] ∧ LenV K x H n ∧ Q (.int (n : Nat)) H
def rAbsA : List V → Hp → VK → Prop := fun xs H Q => ∃ i, xs = [.int i] ∧ Q (.int (if i < 0 then -i else i)) H
def rIntA : List V → Hp → VK → Prop := fun xs H Q => (∃ i, xs = [.int i] ∧ Q (.int i) H) ∨ ∃ k, xs = [.bl k] ∧ Q (.int (if k then 1 else 0)) H
def rMax2A : List V → Hp → VK → Prop := fun xs H Q => ∃ i j, xs = [.int i, .int j] ∧ Q (.int (if j > i then j else i)) H
def rMin2A : List V → Hp → VK → Prop := fun xs H Q => ∃ i j, xs = [.int i, .int j] ∧ Q (.int (if j < i then j else i)) H
def rEqA (K : PySem.W.Frag) : R2 := fun x y H Q => rEq x y H Q ∨ rEqD K x y H Q
def rNeA (K : PySem.W.Frag) : R2 := fun x y H Q => rNe x y H Q ∨ rNeD K x y H Q
def rLtA : R2 := fun x y H Q => (∃ i j, x = .int i ∧ y = .int j ∧ Q (.bl (decide (i < j))) H) ∨ ∃ i j, x = .str i ∧ y = .str j ∧ Q (.bl (decide (i.cps.toList < j.cps.toList))) H
def rLeA : R2 := fun x y H Q => ∃ i j, x = .int i ∧ y = .int j ∧ Q (.bl (decide (i ≤ j))) H
def rGtA : R2 := fun x y H Q => ∃ i j, x = .int i ∧ y = .int j ∧ Q (.bl (decide (j < i))) H
def rGeA : R2 := fun x y H Q => ∃ i j, x = .int i ∧ y = .int j ∧ Q (.bl (decide (j ≤ i))) H
def rIsA : R2 := fun x y H Q => (y = .non ∧ Q (.bl (decide (x = .non))) H) ∨ ∃ a b : Bool, x = .bl a ∧ y = .bl b ∧ Q (.bl (decide (a = b))) H
def rIsNotA : R2 := fun x y H Q => (y = .non ∧ Q (.bl (!decide (x = .non))) H) ∨ ∃ a b : Bool, x = .bl a ∧ y = .bl b ∧ Q (.bl (!decide (a = b))) H
def rInA (K : PySem.W.Frag) : R2 := fun x y H Q => (∃ (c : Nat) (z : Str), x = .str ⟨#[c]⟩ ∧ y = .str z ∧ Q (.bl (decide (c ∈ z.cps.toList))) H) ∨ rIn K false x y H Q
def rNotInA (K : PySem.W.Frag) : R2 := fun x y H Q => (∃ (c : Nat) (z : Str), x = .str ⟨#[c]⟩ ∧ y = .str z ∧ Q (.bl (!decide (c ∈ z.cps.toList))) H) ∨ rIn K true x y H Q
def rSlA3 (K : PySem.W.Frag) : V → Option Int → Option Int → Hp → VK → Prop := fun x lo hi H Q => rSlS x lo hi H Q ∨ rSlL K x lo hi H Q
section
variable {X : Cx}
theorem op_addA (K : PySem.W.Frag) (h : X.K = K := by rfl) : OpR X (binaryOp .Add) (rAddA K) := by subst h; exact op_add.or (op_add_str.or (op_cat.or op_catT))
theorem op_mulStr : OpR X (binaryOp .Mult) (fun x y H Q => ∃ z n, x = .str z ∧ y = .int n ∧ MulOk z n ∧ Q (.str (Txt.mul z n)) H) := by
  rintro pins s σ H x y v u Q I rx ry ⟨z, n, rfl, rfl, hok, q⟩
  obtain ⟨t, rfl⟩ := rx
  obtain ⟨t', rfl⟩ := ry
  exact SB.mul hok fun _ _ => ⟨.str (Txt.mul z n), H, I.tok _, ⟨_, rfl⟩, q⟩
theorem op_mulA : OpR X (binaryOp .Mult) rMulA := op_mul.or (op_rep.or op_mulStr)
theorem call_lenA (K : PySem.W.Frag) (h : X.K = K := by rfl) : CallR X (.builtin "len") (rLenA K) := by subst h; exact call_len
theorem call_absA : CallR X (.builtin "abs") rAbsA := call_abs
theorem call_intA : CallR X (.type "int") rIntA := call_int1
theorem call_max2A (hc : X.calm = true) : CallR X (.builtin "max") rMax2A := call_max2 hc
theorem call_min2A (hc : X.calm = true) : CallR X (.builtin "min") rMin2A := call_min2 hc
theorem call_isinstanceA (K : PySem.W.Frag) (h : X.K = K := by rfl) : CallR X (.builtin "isinstance") (rIsi K) := by subst h; exact call_isi
theorem call_isinstanceTA (K : PySem.W.Frag) (h : X.K = K := by rfl) : CallR X (.builtin "isinstance") (rIsiT K) := by subst h; exact call_isiT
theorem call_allA (K : PySem.W.Frag) (hc : X.calm = true) (h : X.K = K := by rfl) : CallR X (.builtin "all") (rAll K) := by subst h; exact cr_all hc
theorem call_anyA (K : PySem.W.Frag) (hc : X.calm = true) (h : X.K = K := by rfl) : CallR X (.builtin "any") (rAny K) := by subst h; exact cr_any hc
theorem op_eqA (K : PySem.W.Frag) (hu : X.A.units + 64 < cLine) (h : X.K = K := by rfl) : OpR X (compareOp .Eq) (rEqA K) := by subst h; exact op_eq.or (op_eqD hu)
theorem op_neA (K : PySem.W.Frag) (hu : X.A.units + 64 < cLine) (h : X.K = K := by rfl) : OpR X (compareOp .NotEq) (rNeA K) := by subst h; exact op_ne.or (op_neD hu)
def rTupleA (K : PySem.W.Frag) : List V → Hp → VK → Prop := fun xs H Q => ∃ p ys, xs = [.ref p] ∧ ((SqL K H p ys ∧ ∀ l, H l = none → Q (.ref l) (upd H l (.tup ys))) ∨ (SqT K H p ys ∧ Q (.ref p) H))
def rListA (K : PySem.W.Frag) : List V → Hp → VK → Prop := fun xs H Q => ∃ p ys, xs = [.ref p] ∧ (SqL K H p ys ∨ SqT K H p ys) ∧ ∀ l, H l = none → Q (.ref l) (upd H l (.lst ys))
theorem call_tupleA (K : PySem.W.Frag) (h : X.K = K := by rfl) : CallR X (.type "tuple") (rTupleA K) := by subst h; exact call_tuple_of
theorem call_listA (K : PySem.W.Frag) (h : X.K = K := by rfl) : CallR X (.type "list") (rListA K) := by subst h; exact call_list_of
theorem op_ltA : OpR X (compareOp .Lt) rLtA := op_lt.or op_lt_str
theorem op_leA : OpR X (compareOp .LtE) rLeA := op_le
theorem op_gtA : OpR X (compareOp .Gt) rGtA := op_gt
theorem op_geA : OpR X (compareOp .GtE) rGeA := op_ge
theorem op_isA : OpR X (compareOp .Is) rIsA := op_isN.or op_isBl
theorem op_isnotA : OpR X (compareOp .IsNot) rIsNotA := op_notN.or op_notBl
theorem op_inA (K : PySem.W.Frag) (h : X.K = K := by rfl) : OpR X (compareOp .In) (rInA K) := by subst h; exact op_in_sign.or op_in_seq
theorem op_notInA (K : PySem.W.Frag) (h : X.K = K := by rfl) : OpR X (compareOp .NotIn) (rNotInA K) := by subst h; exact op_notIn_sign.or op_notIn_seq
theorem sl_A (K : PySem.W.Frag) (h : X.K = K := by rfl) : SlR X (rSlA3 K) := by subst h; exact sl_str.or sl_list
theorem ix_A (K : PySem.W.Frag) (h : X.K = K := by rfl) : IxR X (rIx K) := by subst h; exact ix_seq
def rJoinA (K : PySem.W.Frag) : V → List V → Hp → VK → Prop := fun x xs H Q => ∃ a p, ∃ ys : List Str, x = .str a ∧ xs = [.ref p] ∧ (SqL K H p (ys.map V.str) ∨ SqT K H p (ys.map V.str)) ∧ (ys.map (·.length)).sum + ys.length * a.length ≤ 16777216 ∧ Q (.str (Txt.join a ys)) H
theorem pe_joinA (K : PySem.W.Frag) {o e : Expr} {to te : TE} {apos pos : Pos} (ho : PE X o to) (he : PE X e te) (h : X.K = K := by rfl) (hs : starEach [e] X.env = [(false, eval e X.env)] := by rfl) (hbase : attributeBase o "join" X.env (eval o X.env) = eval o X.env := by rfl) (hline : (apos.endLine == pos.line) = true := by rfl) :
    PE X (.Call (.Attribute o "join" apos) [e] [] pos) (tM1 (rJoinA K) to te) := by subst h; exact pe_join ho he hs hbase hline
theorem pe_appendA (K : PySem.W.Frag) {o e : Expr} {to te : TE} {apos pos : Pos} (hb : PE X (.Call (.Attribute o "append" apos) [e] [] pos) (tBM X.K "list" rAppend to (tCons te tNil))) (h : X.K = K := by rfl) :
    PE X (.Call (.Attribute o "append" apos) [e] [] pos) (tBM K "list" rAppend to (tCons te tNil)) := by subst h; exact hb
end

/-! ### what is walked: a list, a tuple, a text -/
def iAny (K : PySem.W.Frag) (te : TE) : TI := fun σ H R => te σ H fun x H1 => (∃ a, x = .ref a ∧ (∃ xs, SqL K H1 a xs) ∧ R (Itl K a) H1) ∨ (∃ a, x = .ref a ∧ (∃ xs, SqT K H1 a xs) ∧ R (Itt K a) H1) ∨ (∃ z, x = .str z ∧ R (Its z) H1)
theorem pi_any {X : Cx} (K : PySem.W.Frag) {tg e : Expr} {te : TE} (he : PE X e te) (h : X.K = K := by rfl) : PI X tg e (iAny K te) := by
  subst h
  constructor
  intro pins s σ H R I h
  refine thn (he.run pins s σ H _ I h) ?_
  rintro v s1 ⟨x, H1, I1, r1, ⟨a, rfl, ⟨xs, hq⟩, q⟩ | ⟨a, rfl, ⟨xs, hq⟩, q⟩ | ⟨z, rfl, q⟩⟩
  · cases r1
    obtain ⟨its, rv, p, hz⟩ := I1.list hq
    refine wpAny_pyIter_list p.isList ⟨s1.heap.objs.size, [s1.heap.objs.size], _, _, H1, rfl, ?_, turn_list a _, ⟨_, Heap.get?_push_size _ rfl, rfl, rfl⟩, fun b hb => ?_, q⟩
    · exact I1.kept (t' := s1.toks) fun b o e => Heap.get?_push_of_some _ e
    · rw [List.mem_singleton.mp hb]
      exact I1.fpOk (Nat.le_refl _) (I1.hok.fresh (Nat.le_refl _))
  · cases r1
    obtain ⟨its, rv, p, hz⟩ := I1.tuple hq
    have p2 : s1.heap.IsTuple a its.toArray := p
    refine wpAny_pyIter_tuple p2 ⟨s1.heap.objs.size, [s1.heap.objs.size], _, _, H1, rfl, ?_, turn_tuple a _, ⟨_, Heap.get?_push_size _ rfl, rfl, rfl⟩, fun b hb => ?_, q⟩
    · exact I1.kept (t' := s1.toks) fun b o e => Heap.get?_push_of_some _ e
    · rw [List.mem_singleton.mp hb]
      exact I1.fpOk (Nat.le_refl _) (I1.hok.fresh (Nat.le_refl _))
  · obtain ⟨t, rfl⟩ := r1
    by_cases ha : z.cps.all (· < 128) = true
    · exact wpAny_pyIter_ascii ha (pi_one (tk := s1.toks) I1 _ (turn_str _ z t _ (.inl rfl)) ⟨_, Heap.get?_push_size _ rfl, rfl, rfl⟩ q)
    · exact wpAny_pyIter_wide (by simpa using ha) (pi_one (tk := s1.toks) I1 _ (turn_str _ z t _ (.inr rfl)) ⟨_, Heap.get?_push_size _ rfl, rfl, rfl⟩ q)

/-! ### a def that may be called by its name -/
structure Cal (P : Program) (w : World) (K : PySem.W.Frag) (mg : Str → Option Value) (base : Heap) (k : Nat) (x : Str) (sp : Sp) : Prop where
  ex : ∃ (f : Addr) (fd : FuncData) (ps : List Str), FnOk P w K mg base L2.CX0 k f fd ps sp ∧ mg x = some (.ref f) ∧ PySem.W.keepIn K (.ref f) = true ∧ Binds K fd ps []
section
variable {X : Cx} {k j : Nat} {x : Str} {sp : Sp} {p pos : Pos} {e : Expr} {es : List Expr} {t : TA}
theorem pe_cA (c : Cal X.prog X.w X.K X.mg X.base k x sp) (hr : Room j X.A) (hk : k ≤ j) (hg : Gl X x) (ha : PA X (e :: es) t)
    (hdb : (x == ("__debug__" : Str)) = false := by decide) (he : starEach (e :: es) X.env = (false, eval e X.env) :: starEach es X.env := by rfl) (hpl : (backTo pos (starEach es X.env)).any (·.1) = false := by rfl) :
    PE X (.Call (.Name x p) (e :: es) [] pos) (tCall sp [] L2.E0 t) := by
  obtain ⟨f, fd, ps, F, hm, kp, b⟩ := c.ex
  exact pe_call F (hr.mono hk) hg hm kp b .nil L2.pass0 ha hdb he hpl
end
section
variable {P : Program} {w : World} {K : PySem.W.Frag} {mg : Str → Option Value} {base : Heap}
/-- what the head tells of one def -/
structure At (K : PySem.W.Frag) (mg : Str → Option Value) (x : Str) (st : Stmt) : Prop where
  ex : ∃ (f : Addr) (fd : FuncData), FunD K x x (defArgs st) (defBody st) (defScope st) [] [] f fd ∧ mg x = some (.ref f)
theorem fnok_of {x : Str} {st : Stmt} {f : Addr} {fd : FuncData} {N ps : List Str} {k : Nat} {sp : Sp} (F : FunD K x x (defArgs st) (defBody st) (defScope st) [] [] f fd) (S : FnScope N ps (defScope st)) (len : ∀ vs H Q E, sp vs H Q E → vs.length = ps.length)
    (hbody : ∀ (cdv : Value) (A : Around) (outer : List Env) (s : Shared) (H : Hp) (vs : List V) (Q : VK) (E : XK), Room k (A.deeper (envOfC x (defScope st) s.heap.objs.size f cdv)) → sp vs H Q E →
      ∃ t, PSs (cxOf L2.CX0 P w K mg base N x (defScope st) f cdv A outer s H E).nox (defBody st) t ∧ t { nx := fun _ H' => Q .non H', rt := Q } (start N vs) H) : FnOk P w K mg base L2.CX0 (k + 1) f fd ps sp := by
  refine F.ok S len fun cdv A outer s H vs Q E hr hsp => ?_
  obtain ⟨t, h, q⟩ := hbody cdv A outer s H vs Q E hr hsp
  exact ⟨t, h.nox, q⟩
theorem cal_of {x : Str} {st : Stmt} {N ps : List Str} {k : Nat} {sp : Sp} (F : At K mg x st) (S : FnScope N ps (defScope st)) (len : ∀ vs H Q E, sp vs H Q E → vs.length = ps.length)
    (hb : ∀ (kV doc pm : Value) (an : Option Addr) (cdv ct : Value) (us : List Value), us.length = ps.length → bindArgs (PySem.W.fnOf x x (defArgs st) (defBody st) (defScope st) .none kV doc pm an cdv ct) ⟨us, []⟩ = pure (ps.zip us))
    (hbody : ∀ (f : Addr) (cdv : Value) (A : Around) (outer : List Env) (s : Shared) (H : Hp) (vs : List V) (Q : VK) (E : XK), Room k (A.deeper (envOfC x (defScope st) s.heap.objs.size f cdv)) → sp vs H Q E →
      ∃ t, PSs (cxOf L2.CX0 P w K mg base N x (defScope st) f cdv A outer s H E).nox (defBody st) t ∧ t { nx := fun _ H' => Q .non H', rt := Q } (start N vs) H) : Cal P w K mg base (k + 1) x sp := by
  obtain ⟨f, fd, F, m⟩ := F.ex
  refine ⟨f, fd, ps, F.ok S len fun cdv A outer s H vs Q E hr hsp => ?_, m, F.kp, F.bindsN hb⟩
  obtain ⟨t, h, q⟩ := hbody f cdv A outer s H vs Q E hr hsp
  exact ⟨t, h.nox, q⟩
end

/-! ### defs with defaults -/
structure AtD (K : PySem.W.Frag) (mg : Str → Option Value) (x : Str) (st : Stmt) (dvs : List V) (kws : List (Str × V)) : Prop where
  ex : ∃ (f : Addr) (fd : FuncData), FunD K x x (defArgs st) (defBody st) (defScope st) dvs kws f fd ∧ mg x = some (.ref f)
structure CalD (P : Program) (w : World) (K : PySem.W.Frag) (mg : Str → Option Value) (base : Heap) (k : Nat) (x : Str) (sp : Sp) (dvs : List V) : Prop where
  ex : ∃ (f : Addr) (fd : FuncData) (ps : List Str) (ds : List Value), FnOk P w K mg base L2.CX0 k f fd ps sp ∧ mg x = some (.ref f) ∧ PySem.W.keepIn K (.ref f) = true ∧ Binds K fd ps ds ∧ Vals dvs ds
section
variable {X : Cx} {k j : Nat} {x : Str} {sp : Sp} {dvs : List V} {p pos : Pos} {e : Expr} {es : List Expr} {t : TA}
theorem pe_cD (c : CalD X.prog X.w X.K X.mg X.base k x sp dvs) (hr : Room j X.A) (hk : k ≤ j) (hg : Gl X x) (ha : PA X (e :: es) t)
    (hdb : (x == ("__debug__" : Str)) = false := by decide) (he : starEach (e :: es) X.env = (false, eval e X.env) :: starEach es X.env := by rfl) (hpl : (backTo pos (starEach es X.env)).any (·.1) = false := by rfl) :
    PE X (.Call (.Name x p) (e :: es) [] pos) (tCall sp dvs L2.E0 t) := by
  obtain ⟨f, fd, ps, ds, F, hm, kp, b, hd⟩ := c.ex
  exact pe_call F (hr.mono hk) hg hm kp b hd L2.pass0 ha hdb he hpl
end
section
variable {P : Program} {w : World} {K : PySem.W.Frag} {mg : Str → Option Value} {base : Heap}
theorem calD_of {x : Str} {st : Stmt} {N ps : List Str} {k : Nat} {sp : Sp} {dvs : List V} (F : AtD K mg x st dvs []) (S : FnScope N ps (defScope st)) (len : ∀ vs H Q E, sp vs H Q E → vs.length = ps.length)
    (hbody : ∀ (f : Addr) (cdv : Value) (A : Around) (outer : List Env) (s : Shared) (H : Hp) (vs : List V) (Q : VK) (E : XK), Room k (A.deeper (envOfC x (defScope st) s.heap.objs.size f cdv)) → sp vs H Q E →
      ∃ t, PSs (cxOf L2.CX0 P w K mg base N x (defScope st) f cdv A outer s H E).nox (defBody st) t ∧ t { nx := fun _ H' => Q .non H', rt := Q } (start N vs) H) (n j : Nat) (hd : dvs ≠ []) (hn : n + (dvs.length - j) = ps.length)
    (hb : ∀ (T : Addr) (kV doc pm : Value) (an : Option Addr) (cdv ct : Value) (us its : List Value), us.length = n → its.length = dvs.length →
      ∃ k, bindArgs (PySem.W.fnOf x x (defArgs st) (defBody st) (defScope st) (.ref T) kV doc pm an cdv ct) ⟨us, []⟩ = seqItems? (.ref T) >>= k ∧ k (some its.toArray) = pure (ps.zip (us ++ its.drop j))) : CalD P w K mg base (k + 1) x sp (dvs.drop j) := by
  obtain ⟨f, fd, F, m⟩ := F.ex
  obtain ⟨ds, hv, b⟩ := F.binds1 n j hd hn hb
  refine ⟨f, fd, ps, ds, F.ok S len fun cdv A outer s H vs Q E hr hsp => ?_, m, F.kp, b, hv⟩
  obtain ⟨t, h, q⟩ := hbody f cdv A outer s H vs Q E hr hsp
  exact ⟨t, h.nox, q⟩
end

/-! ### readings, step by step -/
section
variable {K : PySem.W.Frag} {σ : L2.St} {H : Hp} {Q : VK} {QB : Bool → Hp → Prop} {QA : List V → Hp → Prop} {v x y : V} {i j : Nat} {ta tb te tc : TE} {tl : TA} {r r' : R2} {D : Ends} {t u c : TT} {s1 s2 : TS} {a : Addr}
theorem r_var (h : σ[i]? = some (some v)) (q : Q v H) : tVar i σ H Q := ⟨v, h, q⟩
theorem r_c (q : Q v H) : tC v σ H Q := q
theorem r_op (q : ta σ H fun x H1 => tb σ H1 fun y H2 => r x y H2 Q) : tOp r ta tb σ H Q := q
theorem r_un {ru : V → Hp → VK → Prop} (q : ta σ H fun x H1 => ru x H1 Q) : tUn ru ta σ H Q := q
theorem r_nil (q : QA [] H) : tNil σ H QA := q
theorem r_cons (q : te σ H fun x H1 => tl σ H1 fun xs H2 => QA (x :: xs) H2) : tCons te tl σ H QA := q
theorem r_lst (q : tl σ H fun xs H1 => xs.length ≤ sizeLine ∧ ∀ p, H1 p = none → Q (.ref p) (upd H1 p (.lst xs))) : tLst tl σ H Q := q
theorem r_tup (q : tl σ H fun xs H1 => xs.length ≤ sizeLine ∧ ∀ p, H1 p = none → Q (.ref p) (upd H1 p (.tup xs))) : tTup tl σ H Q := q
theorem r_cb {rc : List V → Hp → VK → Prop} (q : tl σ H fun vs H1 => rc vs H1 Q) : tCB rc tl σ H Q := q
theorem r_call {sp : Sp} {dvs : List V} {E : XK} (q : tl σ H fun vs H1 => sp (vs ++ dvs) H1 Q E) : tCall sp dvs E tl σ H Q := q
theorem r_test (q : te σ H fun x H' => ∃ k, x = .bl k ∧ QB k H') : tTest te σ H QB := q
theorem r_B (q : te σ H fun x H' => ∃ k, x = .bl k ∧ QB k H') : tB te σ H QB := q
theorem r_bl {b : Bool} {QC : Bool → Prop} (q : QC b) : ∃ k, V.bl b = .bl k ∧ QC k := ⟨b, rfl, q⟩
theorem r_and (q : t σ H fun c H1 => if c = true then u σ H1 QB else QB false H1) : tAnd t u σ H QB := q
theorem r_or (q : t σ H fun c H1 => if c = true then QB true H1 else u σ H1 QB) : tOr t u σ H QB := q
theorem r_not (q : t σ H fun c H1 => QB (!c) H1) : tNot t σ H QB := q
theorem r_andV (q : ta σ H fun x H1 => ∃ c, x = .bl c ∧ if c = true then tb σ H1 Q else Q (.bl false) H1) : tAndV ta tb σ H Q := q
theorem r_orV (q : ta σ H fun x H1 => ∃ c, x = .bl c ∧ if c = true then Q (.bl true) H1 else tb σ H1 Q) : tOrV ta tb σ H Q := q
theorem r_notV (q : ta σ H fun x H1 => ∃ c, x = .bl c ∧ Q (.bl (!c)) H1) : tNotV ta σ H Q := q
theorem r_if (q : t σ H fun c H1 => if c = true then ta σ H1 Q else tb σ H1 Q) : tIf t ta tb σ H Q := q
theorem r_chain (q : ta σ H fun x H1 => tb σ H1 fun y H2 => r x y H2 fun z H3 => ∃ k, z = .bl k ∧ (if k = true then tc σ H3 fun w' H4 => r' y w' H4 Q else Q (.bl false) H3)) : tChain r r' ta tb tc σ H Q := q
theorem r_sl {rs : V → Option Int → Option Int → Hp → VK → Prop} {tlo thi : TO} (q : te σ H fun x H1 => tlo σ H1 fun l H2 => thi σ H2 fun u H3 => rs x l u H3 Q) : tSl rs te tlo thi σ H Q := q
theorem r_nopart {QO : Option Int → Hp → Prop} (q : QO none H) : tNoPart σ H QO := q
theorem r_part {QO : Option Int → Hp → Prop} (q : te σ H fun x H1 => ∃ i, x = .int i ∧ QO (some i) H1) : tPart te σ H QO := q
theorem r_m1 {rm : V → List V → Hp → VK → Prop} (q : ta σ H fun x H1 => (∃ a, x = .str a) ∧ tb σ H1 fun y H2 => rm x [y] H2 Q) : tM1 rm ta tb σ H Q := q
theorem r_bm {T : String} {rm : V → List V → Hp → VK → Prop} (q : ta σ H fun x H1 => tyV K T x H1 ∧ tl σ H1 fun xs H2 => rm x xs H2 Q) : tBM K T rm ta tl σ H Q := q
theorem r_next (q : D.nx σ H) : tNext D σ H := q
theorem r_seq (q : s1 { D with nx := s2 D } σ H) : tSeq s1 s2 D σ H := q
theorem r_asg (q : te σ H fun x H1 => D.nx (σ.set i (some x)) H1) : tAsg te (gName i) D σ H := q
theorem r_asgS {rs : V → V → V → Hp → (Hp → Prop) → Prop} (q : te σ H fun x H1 => ta σ H1 fun o H2 => tb σ H2 fun ix H3 => rs o ix x H3 fun H4 => D.nx σ H4) : tAsg te (gSub ta tb rs) D σ H := q
theorem r_par (q : tl σ H fun vs H1 => ∃ v w, vs = [v, w] ∧ D.nx ((σ.set i (some v)).set j (some w)) H1) : tPar i j tl D σ H := q
theorem r_ret (q : te σ H D.rt) : tRet te D σ H := q
theorem r_drop (q : te σ H fun _ H1 => D.nx σ H1) : tDrop te D σ H := q
theorem r_ifS (q : c σ H fun b H1 => if b = true then s1 D σ H1 else s2 D σ H1) : tIfS c s1 s2 D σ H := q
theorem r_brk (q : D.bk σ H) : tBreak D σ H := q
theorem r_cont (q : D.ct σ H) : tCont D σ H := q
/-! values -/
theorem r_I0 {g : Int → Int → V} {i j : Int} (q : Q (g i j) H) : rI0 g (.int i) (.int j) H Q := ⟨i, j, rfl, rfl, q⟩
theorem r_I {C : Int → Int → Prop} {g : Int → Int → V} {i j : Int} (c : C i j) (q : Q (g i j) H) : rI C g (.int i) (.int j) H Q := ⟨i, j, rfl, rfl, c, q⟩
theorem r_U {g : Int → V} {i : Int} (q : Q (g i) H) : rU g (.int i) H Q := ⟨i, rfl, q⟩
theorem r_addI {i j : Int} (q : Q (.int (i + j)) H) : rAddA K (.int i) (.int j) H Q := .inl ⟨i, j, rfl, rfl, q⟩
theorem r_addS {i j : Str} (h : i.length + j.length ≤ sizeLine) (q : Q (.str (i ++ j)) H) : rAddA K (.str i) (.str j) H Q := .inr (.inl ⟨i, j, rfl, rfl, h, q⟩)
theorem r_addL {p q : Addr} {xs ys : List V} (h1 : H p = some (.lst xs)) (h2 : H q = some (.lst ys)) (hl : xs.length + ys.length ≤ sizeLine) (k : ∀ l, H l = none → Q (.ref l) (upd H l (.lst (xs ++ ys)))) : rAddA K (.ref p) (.ref q) H Q :=
  .inr (.inr (.inl ⟨p, q, xs, ys, rfl, rfl, h1, h2, hl, k⟩))
theorem r_mulS {z : Str} {n : Int} (c : MulOk z n) (q : Q (.str (Txt.mul z n)) H) : rMulA (.str z) (.int n) H Q := .inr (.inr ⟨z, n, rfl, rfl, c, q⟩)
theorem r_mulL {p : Addr} {n : Int} {xs : List V} (h : H p = some (.lst xs)) (h1 : 0 ≤ n) (h2 : n < 2 ^ 62) (h3 : xs.length * n.toNat ≤ sizeLine) (q : ∀ l, H l = none → Q (.ref l) (upd H l (.lst (List.replicate n.toNat xs).flatten))) : rMulA (.ref p) (.int n) H Q :=
  .inr (.inl ⟨p, n, xs, rfl, rfl, h, by omega, by omega, h3, q⟩)
theorem r_mulI {i j : Int} (c : CMul i j) (q : Q (.int (i * j)) H) : rMulA (.int i) (.int j) H Q := .inl ⟨i, j, rfl, rfl, c, q⟩
theorem r_lenS {z : Str} (h : z.length ≤ sizeLine) (q : Q (.int (z.length : Nat)) H) : rLenA K [.str z] H Q := ⟨_, _, rfl, ⟨h, rfl⟩, q⟩
theorem r_lenL {p : Addr} {xs : List V} (h : SqL K H p xs) (q : Q (.int (xs.length : Nat)) H) : rLenA K [.ref p] H Q := ⟨_, _, rfl, .inl ⟨_, h, rfl⟩, q⟩
theorem r_lenT {p : Addr} {xs : List V} (h : SqT K H p xs) (q : Q (.int (xs.length : Nat)) H) : rLenA K [.ref p] H Q := ⟨_, _, rfl, .inr ⟨_, h, rfl⟩, q⟩
theorem r_abs {i : Int} (q : Q (.int (if i < 0 then -i else i)) H) : rAbsA [.int i] H Q := ⟨i, rfl, q⟩
theorem r_intI {i : Int} (q : Q (.int i) H) : rIntA [.int i] H Q := .inl ⟨i, rfl, q⟩
theorem r_max2 {i j : Int} (q : Q (.int (if j > i then j else i)) H) : rMax2A [.int i, .int j] H Q := ⟨i, j, rfl, q⟩
theorem r_min2 {i j : Int} (q : Q (.int (if j < i then j else i)) H) : rMin2A [.int i, .int j] H Q := ⟨i, j, rfl, q⟩
theorem r_eqS (h : scal x y = true) (q : Q (.bl (decide (x = y))) H) : rEqA K x y H Q := .inl ⟨h, q⟩
theorem r_neS (h : scal x y = true) (q : Q (.bl (!decide (x = y))) H) : rNeA K x y H Q := .inl ⟨h, q⟩
theorem r_eqD {d e : PyData} (h1 : Dp K H x d) (h2 : Dp K H y e) (s1 : SeqAt.shaped d = true) (s2 : SeqAt.shaped e = true) (q : Q (.bl (PyData.eqv d e)) H) : rEqA K x y H Q := .inr ⟨d, e, h1, h2, s1, s2, q⟩
theorem r_neD {d e : PyData} (h1 : Dp K H x d) (h2 : Dp K H y e) (s1 : SeqAt.shaped d = true) (s2 : SeqAt.shaped e = true) (q : Q (.bl (!PyData.eqv d e)) H) : rNeA K x y H Q := .inr ⟨d, e, h1, h2, s1, s2, q⟩
theorem r_ltI {i j : Int} (q : Q (.bl (decide (i < j))) H) : rLtA (.int i) (.int j) H Q := .inl ⟨i, j, rfl, rfl, q⟩
theorem r_leI {i j : Int} (q : Q (.bl (decide (i ≤ j))) H) : rLeA (.int i) (.int j) H Q := ⟨i, j, rfl, rfl, q⟩
theorem r_gtI {i j : Int} (q : Q (.bl (decide (j < i))) H) : rGtA (.int i) (.int j) H Q := ⟨i, j, rfl, rfl, q⟩
theorem r_geI {i j : Int} (q : Q (.bl (decide (j ≤ i))) H) : rGeA (.int i) (.int j) H Q := ⟨i, j, rfl, rfl, q⟩
theorem r_isN (q : Q (.bl (decide (x = .non))) H) : rIsA x .non H Q := .inl ⟨rfl, q⟩
theorem r_isN_non (q : Q (.bl true) H) : rIsA .non .non H Q := .inl ⟨rfl, q⟩
theorem r_isnotN_non (q : Q (.bl false) H) : rIsNotA .non .non H Q := .inl ⟨rfl, q⟩
theorem r_isN_int {i : Int} (q : Q (.bl false) H) : rIsA (.int i) .non H Q := .inl ⟨rfl, q⟩
theorem r_isnotN_int {i : Int} (q : Q (.bl true) H) : rIsNotA (.int i) .non H Q := .inl ⟨rfl, q⟩
theorem r_isN_str {z : Str} (q : Q (.bl false) H) : rIsA (.str z) .non H Q := .inl ⟨rfl, q⟩
theorem r_isnotN_str {z : Str} (q : Q (.bl true) H) : rIsNotA (.str z) .non H Q := .inl ⟨rfl, q⟩
theorem r_isN_bl {b : Bool} (q : Q (.bl false) H) : rIsA (.bl b) .non H Q := .inl ⟨rfl, q⟩
theorem r_isnotN_bl {b : Bool} (q : Q (.bl true) H) : rIsNotA (.bl b) .non H Q := .inl ⟨rfl, q⟩
theorem r_isN_ref {p : Addr} (q : Q (.bl false) H) : rIsA (.ref p) .non H Q := .inl ⟨rfl, q⟩
theorem r_isnotN_ref {p : Addr} (q : Q (.bl true) H) : rIsNotA (.ref p) .non H Q := .inl ⟨rfl, q⟩
theorem r_isB {a b : Bool} (q : Q (.bl (decide (a = b))) H) : rIsA (.bl a) (.bl b) H Q := .inr ⟨a, b, rfl, rfl, q⟩
theorem r_isnotN (q : Q (.bl (!decide (x = .non))) H) : rIsNotA x .non H Q := .inl ⟨rfl, q⟩
theorem r_isnotB {a b : Bool} (q : Q (.bl (!decide (a = b))) H) : rIsNotA (.bl a) (.bl b) H Q := .inr ⟨a, b, rfl, rfl, q⟩
theorem r_inS {c : Nat} {z : Str} (q : Q (.bl (decide (c ∈ z.cps.toList))) H) : rInA K (.str ⟨#[c]⟩) (.str z) H Q := .inl ⟨c, z, rfl, rfl, q⟩
theorem r_ixL {p : Addr} {xs : List V} {i : Int} (h : SqL K H p xs) (ha : atI xs i = some v) (q : Q v H) : rIx K (.ref p) (.int i) H Q := .inl ⟨p, xs, i, v, rfl, rfl, h, ha, q⟩
theorem r_ixT {p : Addr} {xs : List V} {i : Int} (h : SqT K H p xs) (ha : atI xs i = some v) (q : Q v H) : rIx K (.ref p) (.int i) H Q := .inr (.inl ⟨p, xs, i, v, rfl, rfl, h, ha, q⟩)
theorem r_ixS {z : Str} {i : Int} {c : Nat} (h : z.length ≤ sizeLine) (ha : atI z.cps.toList i = some c) (q : Q (.str ⟨#[c]⟩) H) : rIx K (.str z) (.int i) H Q := .inr (.inr ⟨z, i, c, rfl, rfl, h, ha, q⟩)
theorem r_setL {p : Addr} {xs : List V} {k : Int} {j : Nat} {QH : Hp → Prop} (h : H p = some (.lst xs)) (hj : ixN xs.length k = some j) (q : QH (upd H p (.lst (xs.set j v)))) : rSetL (.ref p) (.int k) v H QH := ⟨p, xs, k, j, rfl, rfl, h, hj, q⟩
theorem r_intO {i : Int} {QC : Int → Prop} (q : QC i) : ∃ k, V.int i = .int k ∧ QC k := ⟨i, rfl, q⟩
theorem r_two {v w : V} {QC : V → V → Prop} (q : QC v w) : ∃ v1 w1, [v, w] = [v1, w1] ∧ QC v1 w1 := ⟨v, w, rfl, q⟩
theorem r_slS {z : Str} {lo hi : Option Int} (h : z.length ≤ sizeLine) (q : Q (.str (cutS z lo hi)) H) : rSlA3 K (.str z) lo hi H Q := .inl ⟨z, rfl, h, q⟩
theorem r_slL {p : Addr} {xs : List V} {lo hi : Option Int} (h : SqL K H p xs) (q : ∀ l, H l = none → Q (.ref l) (upd H l (.lst (cutV xs lo hi)))) : rSlA3 K (.ref p) lo hi H Q := .inr ⟨p, xs, rfl, h, q⟩
theorem r_app {p : Addr} {xs : List V} (h : H p = some (.lst xs)) (hl : xs.length < sizeLine) (q : Q .non (upd H p (.lst (xs ++ [y])))) : rAppend (.ref p) [y] H Q := ⟨p, xs, y, rfl, rfl, h, hl, q⟩
theorem r_tyL {p : Addr} {xs : List V} {R : Prop} (h : SqL K H p xs) (q : R) : tyV K "list" (.ref p) H ∧ R := ⟨.inl ⟨rfl, _, h⟩, q⟩
end

theorem iteD {p : Prop} {dp : Decidable p} {A B : Prop} (h1 : p → A) (h2 : ¬ p → B) : if decide p = true then A else B := by
  by_cases h : p
  · rw [if_pos (decide_eq_true h)]
    exact h1 h
  · rw [if_neg (by simp [h])]
    exact h2 h
theorem iteND {p : Prop} {dp : Decidable p} {A B : Prop} (h1 : ¬ p → A) (h2 : p → B) : if (!decide p) = true then A else B := by
  by_cases h : p
  · rw [if_neg (by simp [h])]
    exact h2 h
  · rw [if_pos (by simp [h])]
    exact h1 h
theorem iteB {c : Bool} {A B : Prop} (h1 : c = true → A) (h2 : c = false → B) : if c = true then A else B := by
  cases c with
  | true => rw [if_pos rfl]; exact h1 rfl
  | false => rw [if_neg Bool.false_ne_true]; exact h2 rfl
theorem iteNB {c : Bool} {A B : Prop} (h1 : c = false → A) (h2 : c = true → B) : if (!c) = true then A else B := by
  cases c with
  | true => exact h2 rfl
  | false => exact h1 rfl
/-! ### loops -/
section
variable {K : PySem.W.Frag} {σ : L2.St} {H : Hp} {D : Ends} {wi : TI} {g : TG} {tb : TS} {ta : TA} {te : TE}
theorem r_for (q : wi σ H fun J H1 => ∃ W : Nat → Nat → L2.St → Hp → Prop, (∃ m, W 0 m σ H1) ∧ ∀ i m σ H, W i m σ H →
      (J.stop i H ∧ D.nx σ H) ∨ (J.go i H ∧ ∃ N : L2.St → Hp → Prop, (∀ σ' H', N σ' H' → ∃ m', m' < m ∧ W (i + 1) m' σ' H') ∧ ∀ x H', J.yld i H x H' → g x σ H' fun σ2 H2 => tb { D with nx := N, ct := N, bk := D.nx } σ2 H2)) : tFor wi g tb D σ H := q
theorem r_rng1 {R : It → Hp → Prop} (q : ta σ H fun vs H1 => ∃ j : Int, vs = [.int j] ∧ -(2 ^ 62) ≤ j ∧ j < 2 ^ 62 ∧ R (Itr 0 j.toNat) H1) : iRng1 ta σ H R := q
theorem r_iAny {R : It → Hp → Prop} (q : te σ H fun x H1 => (∃ a, x = .ref a ∧ (∃ xs, SqL K H1 a xs) ∧ R (Itl K a) H1) ∨ (∃ a, x = .ref a ∧ (∃ xs, SqT K H1 a xs) ∧ R (Itt K a) H1) ∨ (∃ z, x = .str z ∧ R (Its z) H1)) : iAny K te σ H R := q
theorem r_iList {R : It → Hp → Prop} (q : te σ H fun x H1 => ∃ a, x = .ref a ∧ (∃ xs, SqL K H1 a xs) ∧ R (Itl K a) H1) : iList K te σ H R := q
theorem r_lc {tt : TT} {vs : List Nat} {Q : VK} (q : wi σ H fun J H1 => ∀ D, H1 D = none → ∃ W : Nat → Nat → Hp → Prop, (∃ m, W 0 m (upd H1 D (.lst []))) ∧ ∀ i m H, W i m H →
  (J.stop i H ∧ Q (.ref D) H) ∨ (J.go i H ∧ ∃ Nx : Hp → Prop, (∀ H', Nx H' → ∃ m', m' < m ∧ W (i + 1) m' H') ∧ ∀ x H', J.yld i H x H' → g x (wipe σ vs) H' fun σ2 H2 => wipe σ2 vs = wipe σ vs ∧ tt σ2 H2 fun b H3 =>
    if b = true then te σ2 H3 fun y H4 => ∃ acc, H4 D = some (.lst acc) ∧ acc.length < sizeLine ∧ Nx (upd H4 D (.lst (acc ++ [y]))) else Nx H3)) : tLc wi g tt te vs σ H Q := q
theorem r_yes {QB : Bool → Hp → Prop} (q : QB true H) : tYes σ H QB := q
theorem r_gN {i : Nat} {v : V} {R : L2.St → Hp → Prop} (q : R (σ.set i (some v)) H) : gName i v σ H R := q
end

/-! ### a comprehension whose elements only read (and lay new things) -/
theorem lc_pure {J : It} {n : Nat} {G : Hp → Prop} {Y : Nat → Hp → V → Hp → Prop} (w : L2.Walk J n G Y) {te : TE} {j : Nat} {vs : List Nat} {σ : L2.St} {H1 : Hp} {Qd : Hp → Prop} {D : Addr} (hD : H1 D = none) (it f : Nat → V)
    (hy : ∀ i H x H', i < n → G H → Y i H x H' → H' = H ∧ x = it i) (hG : ∀ H', Evl.Ex H1 H' → G H') (hw : ∀ x, wipe ((wipe σ vs).set j (some x)) vs = wipe σ vs) (hn : n ≤ 1000000)
    (hel : ∀ i, i < n → ∀ H', Evl.Ex H1 H' → ∀ Q' : VK, (∀ H'', Evl.Ex H' H'' → Q' (f i) H'') → te ((wipe σ vs).set j (some (it i))) H' Q')
    (q : ∀ H', Evl.Ex H1 H' → H' D = some (.lst ((List.range n).map f)) → Qd H') :
    ∃ W : Nat → Nat → Hp → Prop, (∃ m, W 0 m (upd H1 D (.lst []))) ∧ ∀ i m H, W i m H →
      (J.stop i H ∧ Qd H) ∨ (J.go i H ∧ ∃ Nx : Hp → Prop, (∀ H', Nx H' → ∃ m', m' < m ∧ W (i + 1) m' H') ∧ ∀ x H', J.yld i H x H' → gName j x (wipe σ vs) H' fun σ2 H2 => wipe σ2 vs = wipe σ vs ∧ tYes σ2 H2 fun b H3 =>
        if b = true then te σ2 H3 fun y H4 => ∃ acc, H4 D = some (.lst acc) ∧ acc.length < sizeLine ∧ Nx (upd H4 D (.lst (acc ++ [y]))) else Nx H3) := by
  refine lc_it w (fun i H' => Evl.Ex H1 H' ∧ H' D = some (.lst ((List.range i).map f))) ⟨Evl.Ex.new hD, upd_same⟩ (fun i H' _ p => hG H' p.1) ?_ (fun H' p => q H' p.1 p.2)
  rintro i x H H' hi ⟨e1, e2⟩ hyy
  obtain ⟨rfl, rfl⟩ := hy i H x H' hi (hG H e1) hyy
  refine ⟨hw _, r_yes (iteT ?_)⟩
  refine hel i hi _ e1 _ fun H2 e3 => ⟨_, e3 _ _ e2, ?_, Evl.Ex.mut (e1.trans e3) hD, ?_⟩
  · rw [List.length_map, List.length_range, sizeLine_eq]
    omega
  · rw [upd_same, List.range_succ, List.map_append]
    rfl
/-- over a text -/
theorem lc_str {z : Str} {te : TE} {j : Nat} {vs : List Nat} {σ : L2.St} {H1 : Hp} {Qd : Hp → Prop} {D : Addr} (hD : H1 D = none) (f : Nat → V) (hw : ∀ x, wipe ((wipe σ vs).set j (some x)) vs = wipe σ vs) (hn : z.length ≤ 1000000)
    (hel : ∀ c, c ∈ z.cps.toList → ∀ H', Evl.Ex H1 H' → ∀ Q' : VK, (∀ H'', Evl.Ex H' H'' → Q' (f c) H'') → te ((wipe σ vs).set j (some (.str ⟨#[c]⟩))) H' Q')
    (q : ∀ H', Evl.Ex H1 H' → H' D = some (.lst (z.cps.toList.map f)) → Qd H') :
    ∃ W : Nat → Nat → Hp → Prop, (∃ m, W 0 m (upd H1 D (.lst []))) ∧ ∀ i m H, W i m H →
      ((Its z).stop i H ∧ Qd H) ∨ ((Its z).go i H ∧ ∃ Nx : Hp → Prop, (∀ H', Nx H' → ∃ m', m' < m ∧ W (i + 1) m' H') ∧ ∀ x H', (Its z).yld i H x H' → gName j x (wipe σ vs) H' fun σ2 H2 => wipe σ2 vs = wipe σ vs ∧ tYes σ2 H2 fun b H3 =>
        if b = true then te σ2 H3 fun y H4 => ∃ acc, H4 D = some (.lst acc) ∧ acc.length < sizeLine ∧ Nx (upd H4 D (.lst (acc ++ [y]))) else Nx H3) := by
  have sz : z.cps.size = z.length := rfl
  have key : ∀ i, i < z.cps.size → z.cps.getD i 0 ∈ z.cps.toList := fun i hi => by
    have : z.cps.getD i 0 = z.cps[i] := by simp [Array.getD, hi]
    rw [this]
    exact Array.getElem_mem_toList hi
  refine lc_pure walk_str hD (fun i => .str ⟨#[z.cps.getD i 0]⟩) (fun i => f (z.cps.getD i 0)) ?_ (fun _ _ => trivial) hw (by omega) (fun i hi => hel _ (key i hi)) (fun H' e1 e3 => q H' e1 ?_)
  · rintro i H x H' hi _ ⟨e, c, hc, rfl⟩
    refine ⟨e, ?_⟩
    simp [Array.getD, hi] at hc ⊢
    exact hc.symm
  · rw [e3]
    congr 2
    refine List.ext_getElem (by simp) fun i h1 h2 => ?_
    simp at h1
    simp [Array.getD, h1]
/-- over a list or tuple -/
theorem lc_seq {K : PySem.W.Frag} {a : Addr} {xs : List V} {te : TE} {j : Nat} {vs : List Nat} {σ : L2.St} {H1 : Hp} {Qd : Hp → Prop} {D : Addr} (hD : H1 D = none) (f : V → V) (hs : SqL K H1 a xs) (hw : ∀ x, wipe ((wipe σ vs).set j (some x)) vs = wipe σ vs) (hn : xs.length ≤ 1000000)
    (hel : ∀ v, v ∈ xs → ∀ H', Evl.Ex H1 H' → ∀ Q' : VK, (∀ H'', Evl.Ex H' H'' → Q' (f v) H'') → te ((wipe σ vs).set j (some v)) H' Q')
    (q : ∀ H', Evl.Ex H1 H' → H' D = some (.lst (xs.map f)) → Qd H') :
    ∃ W : Nat → Nat → Hp → Prop, (∃ m, W 0 m (upd H1 D (.lst []))) ∧ ∀ i m H, W i m H →
      ((Itl K a).stop i H ∧ Qd H) ∨ ((Itl K a).go i H ∧ ∃ Nx : Hp → Prop, (∀ H', Nx H' → ∃ m', m' < m ∧ W (i + 1) m' H') ∧ ∀ x H', (Itl K a).yld i H x H' → gName j x (wipe σ vs) H' fun σ2 H2 => wipe σ2 vs = wipe σ vs ∧ tYes σ2 H2 fun b H3 =>
        if b = true then te σ2 H3 fun y H4 => ∃ acc, H4 D = some (.lst acc) ∧ acc.length < sizeLine ∧ Nx (upd H4 D (.lst (acc ++ [y]))) else Nx H3) := by
  have key : ∀ i, i < xs.length → xs.getD i .non ∈ xs := fun i hi => by
    rw [List.getD_eq_getElem?_getD, List.getElem?_eq_getElem hi]
    exact List.getElem_mem hi
  refine lc_pure walk_list hD (fun i => xs.getD i .non) (fun i => f (xs.getD i .non)) ?_ (fun _ e => Evl.ex_l e hs) hw (by omega) (fun i hi => hel _ (key i hi)) (fun H' e1 e3 => q H' e1 ?_)
  · rintro i H x H' hi _ ⟨e, hx⟩
    exact ⟨e, by rw [List.getD_eq_getElem?_getD, hx]; rfl⟩
  · rw [e3]
    congr 2
    refine List.ext_getElem (by simp) fun i h1 h2 => ?_
    simp at h1
    simp [List.getElem?_eq_getElem h1]
theorem lc_tupl {K : PySem.W.Frag} {a : Addr} {xs : List V} {te : TE} {j : Nat} {vs : List Nat} {σ : L2.St} {H1 : Hp} {Qd : Hp → Prop} {D : Addr} (hD : H1 D = none) (f : V → V) (hs : SqT K H1 a xs) (hw : ∀ x, wipe ((wipe σ vs).set j (some x)) vs = wipe σ vs) (hn : xs.length ≤ 1000000)
    (hel : ∀ v, v ∈ xs → ∀ H', Evl.Ex H1 H' → ∀ Q' : VK, (∀ H'', Evl.Ex H' H'' → Q' (f v) H'') → te ((wipe σ vs).set j (some v)) H' Q')
    (q : ∀ H', Evl.Ex H1 H' → H' D = some (.lst (xs.map f)) → Qd H') :
    ∃ W : Nat → Nat → Hp → Prop, (∃ m, W 0 m (upd H1 D (.lst []))) ∧ ∀ i m H, W i m H →
      ((Itt K a).stop i H ∧ Qd H) ∨ ((Itt K a).go i H ∧ ∃ Nx : Hp → Prop, (∀ H', Nx H' → ∃ m', m' < m ∧ W (i + 1) m' H') ∧ ∀ x H', (Itt K a).yld i H x H' → gName j x (wipe σ vs) H' fun σ2 H2 => wipe σ2 vs = wipe σ vs ∧ tYes σ2 H2 fun b H3 =>
        if b = true then te σ2 H3 fun y H4 => ∃ acc, H4 D = some (.lst acc) ∧ acc.length < sizeLine ∧ Nx (upd H4 D (.lst (acc ++ [y]))) else Nx H3) := by
  have key : ∀ i, i < xs.length → xs.getD i .non ∈ xs := fun i hi => by
    rw [List.getD_eq_getElem?_getD, List.getElem?_eq_getElem hi]
    exact List.getElem_mem hi
  refine lc_pure walk_tup hD (fun i => xs.getD i .non) (fun i => f (xs.getD i .non)) ?_ (fun _ e => Evl.ex_t e hs) hw (by omega) (fun i hi => hel _ (key i hi)) (fun H' e1 e3 => q H' e1 ?_)
  · rintro i H x H' hi _ ⟨e, hx⟩
    exact ⟨e, by rw [List.getD_eq_getElem?_getD, hx]; rfl⟩
  · rw [e3]
    congr 2
    refine List.ext_getElem (by simp) fun i h1 h2 => ?_
    simp at h1
    simp [List.getElem?_eq_getElem h1]
theorem r_all {K : PySem.W.Frag} {H : Hp} {Q : VK} {D : Addr} {bs : List Bool} (h : H D = some (.lst (bs.map V.bl))) (q : Q (.bl (bs.all id)) H) : rAll K [.ref D] H Q := ⟨D, bs, rfl, SqL.of h, q⟩
theorem r_any {K : PySem.W.Frag} {H : Hp} {Q : VK} {D : Addr} {bs : List Bool} (h : H D = some (.lst (bs.map V.bl))) (q : Q (.bl (bs.any id)) H) : rAny K [.ref D] H Q := ⟨D, bs, rfl, SqL.of h, q⟩

/-! ### the heap without the bag -/
def hid (b : Addr) (H : Hp) : Hp := fun a => if a = b then none else H a
section
variable {b a p : Addr} {H H' : Hp} {o o' : HO}
theorem hid_of (h : H a = some o) (ne : a ≠ b) : hid b H a = some o := by unfold hid; rw [if_neg ne]; exact h
theorem hid_get (h : hid b H a = some o) : H a = some o := by
  unfold hid at h
  by_cases e : a = b
  · rw [if_pos e] at h; cases h
  · rw [if_neg e] at h; exact h
theorem hid_ne (h : hid b H a = some o) : a ≠ b := by
  intro e
  unfold hid at h
  rw [if_pos e] at h
  cases h
theorem hid_bag : hid b (upd H b o) = hid b H := by
  funext a
  unfold hid
  by_cases e : a = b
  · rw [if_pos e, if_pos e]
  · rw [if_neg e, if_neg e, upd_ne e]
theorem hid_up (h : p ≠ b) : hid b (upd H p o) = upd (hid b H) p o := by
  funext a
  unfold hid
  by_cases e : a = b
  · rw [if_pos e, upd_ne (by rw [e]; exact h.symm), if_pos e]
  · by_cases e2 : a = p
    · rw [if_neg e, e2, upd_same, upd_same]
    · rw [if_neg e, upd_ne e2, upd_ne e2, if_neg e]
theorem hid_ex : Evl.Ex (hid b H) H := fun _ _ h => hid_get h
theorem hid_none (h : H p = none) : hid b H p = none := by
  unfold hid
  by_cases e : p = b
  · rw [if_pos e]
  · rw [if_neg e]; exact h
end
def BagL (n : Nat) (l : List V) : Prop := ∃ x y z : Int, l = [.int x, .int y, .int z] ∧ 0 ≤ y ∧ y ≤ 4294967296 ∧ 0 ≤ z ∧ z ≤ (n : Int)
theorem BagL.mono {n m : Nat} {l : List V} (h : BagL n l) (e : n ≤ m) : BagL m l := by
  obtain ⟨x, y, z, rfl, h1, h2, h3, h4⟩ := h
  exact ⟨x, y, z, rfl, h1, h2, h3, by omega⟩
/-- the bag at b, so many draws at most so far -/
def Bag (b : Addr) (n : Nat) (H : Hp) : Prop := ∃ l, H b = some (.lst l) ∧ BagL n l
structure Drw (b : Addr) (n : Nat) (H H' : Hp) : Prop where
  ex : Evl.Ex (hid b H) (hid b H')
  bag : Bag b n H'
theorem Drw.trans {b : Addr} {n m : Nat} {H H1 H2 : Hp} (x : Drw b n H H1) (y : Drw b m H1 H2) : Drw b m H H2 := ⟨x.ex.trans y.ex, y.bag⟩
theorem Bag.mono {b : Addr} {n m : Nat} {H : Hp} (h : Bag b n H) (e : n ≤ m) : Bag b m H := let ⟨l, h1, h2⟩ := h; ⟨l, h1, h2.mono e⟩
theorem Drw.mono {b : Addr} {n m : Nat} {H H' : Hp} (h : Drw b n H H') (e : n ≤ m) : Drw b m H H' := ⟨h.ex, h.bag.mono e⟩
theorem Bag.refl {b : Addr} {n : Nat} {H : Hp} (h : Bag b n H) : Drw b n H H := ⟨Evl.Ex.refl _, h⟩
/-- a new object -/
theorem Bag.new {b p : Addr} {n : Nat} {H : Hp} {o : HO} (h : Bag b n H) (hp : H p = none) : Drw b n H (upd H p o) ∧ hid b (upd H p o) p = some o := by
  obtain ⟨l, h1, h2⟩ := h
  have ne : p ≠ b := (ne_of_none h1 hp).symm
  refine ⟨⟨?_, l, ?_, h2⟩, ?_⟩
  · rw [hid_up ne]
    exact Evl.Ex.new (hid_none hp)
  · rw [upd_ne ne.symm]; exact h1
  · exact hid_of upd_same ne
/-- an object that is not the bag and that H0 did not know is changed -/
theorem Drw.put {b p : Addr} {n : Nat} {H0 H : Hp} {o : HO} (h : Drw b n H0 H) (hp : hid b H0 p = none) (ne : p ≠ b) : Drw b n H0 (upd H p o) := by
  obtain ⟨l, h1, h2⟩ := h.bag
  refine ⟨?_, l, ?_, h2⟩
  · rw [hid_up ne]
    exact Evl.Ex.mut h.ex hp
  · rw [upd_ne ne.symm]; exact h1
theorem Drw.l {K : PySem.W.Frag} {b a : Addr} {n : Nat} {H H' : Hp} {xs : List V} (h : Drw b n H H') (s : SqL K (hid b H) a xs) : SqL K (hid b H') a xs := Evl.ex_l h.ex s
theorem Drw.t {K : PySem.W.Frag} {b a : Addr} {n : Nat} {H H' : Hp} {xs : List V} (h : Drw b n H H') (s : SqT K (hid b H) a xs) : SqT K (hid b H') a xs := Evl.ex_t h.ex s
def SqA (K : PySem.W.Frag) (H : Hp) (a : Addr) (xs : List V) : Prop := SqL K H a xs ∨ SqT K H a xs
theorem SqA.mono {K : PySem.W.Frag} {H H' : Hp} {a : Addr} {xs : List V} (e : Evl.Ex H H') (h : SqA K H a xs) : SqA K H' a xs := by
  rcases h with h | h
  · exact .inl (Evl.ex_l e h)
  · exact .inr (Evl.ex_t e h)
/-- a word of small letters -/
def Word (m : Nat) (z : Str) : Prop := z.length ≤ m ∧ ∀ c ∈ z.cps.toList, 97 ≤ c ∧ c ≤ 122
/-- a class name -/
def Let (c : Nat) : Prop := (97 ≤ c ∧ c ≤ 122) ∨ (65 ≤ c ∧ c ≤ 90)
def ClsN (z : Str) : Prop := ∃ (c : Nat) (r : List Nat), z.cps.toList = c :: r ∧ (65 ≤ c ∧ c ≤ 90) ∧ (∀ d ∈ r, Let d) ∧ r.length ≤ 11
/-! ### isinstance -/
section
variable {K : PySem.W.Frag} {H : Hp} {Q : VK}
theorem ty_lst {a : Addr} {xs : List V} (h : SqL K H a xs) : TyX K H (.ref a) (.type "list") := by
  rcases h with (h | ⟨o, h⟩) | ⟨o, its, n, h1, h2, h3⟩
  · exact .base (.lst h)
  · exact .base (.frz h)
  · exact .kList h1 h2
theorem ty_tup {a : Addr} {xs : List V} (h : SqT K H a xs) : TyX K H (.ref a) (.type "tuple") := by
  rcases h with (h | ⟨o, h⟩) | ⟨o, its, n, h1, h2, h3⟩
  · exact .base (.tup h)
  · exact .fTuple h
  · exact .kTuple h1 h2
theorem r_isi {x : V} {n m : String} {b : Bool} (ty : TyX K H x (.type n)) (h : kitB n m = some b) (q : Q (.bl b) H) : rIsi K [x, .ty m] H Q := ⟨x, .ty m, _, _, b, rfl, .ty m, ty, kit_ty h, q⟩
theorem r_isiLT {x : V} {n : String} {b1 b2 b : Bool} {tp : Addr} (ht : H tp = some (.tup [.ty "list", .ty "tuple"])) (ty : TyX K H x (.type n)) (h1 : kitB n "list" = some b1) (h2 : kitB n "tuple" = some b2) (hb : (b1 || b2) = b) (q : Q (.bl b) H) : rIsiT K [x, .ref tp] H Q := by
  refine ⟨x, tp, _, _, [.type "list", .type "tuple"], b, rfl, ht, .cons (.ty _) (.cons (.ty _) .nil), ty, kitAny_cons (kit_ty h1) (fun e1 => kitAny_cons (kit_ty h2) (fun e2 => ?_) (fun e2 => ?_)) (fun e1 => ?_), q⟩
  · rw [← hb, e1, e2]; exact kitAny_nil
  · rw [← hb, e1, e2]; rfl
  · rw [← hb, e1]; rfl
theorem r_isiLT_non {tp : Addr} (ht : H tp = some (.tup [.ty "list", .ty "tuple"])) (q : Q (.bl false) H) : rIsiT K [.non, .ref tp] H Q := r_isiLT (b1 := false) (b2 := false) ht (TyX.base .non) (by decide +kernel) (by decide +kernel) rfl q
theorem r_isiLT_bl {tp : Addr} (ht : H tp = some (.tup [.ty "list", .ty "tuple"])) {b : Bool} (q : Q (.bl false) H) : rIsiT K [(.bl b), .ref tp] H Q := r_isiLT (b1 := false) (b2 := false) ht (TyX.base (.bl b)) (by decide +kernel) (by decide +kernel) rfl q
theorem r_isiLT_int {tp : Addr} (ht : H tp = some (.tup [.ty "list", .ty "tuple"])) {i : Int} (q : Q (.bl false) H) : rIsiT K [(.int i), .ref tp] H Q := r_isiLT (b1 := false) (b2 := false) ht (TyX.base (.int i)) (by decide +kernel) (by decide +kernel) rfl q
theorem r_isiLT_str {tp : Addr} (ht : H tp = some (.tup [.ty "list", .ty "tuple"])) {z : Str} (q : Q (.bl false) H) : rIsiT K [(.str z), .ref tp] H Q := r_isiLT (b1 := false) (b2 := false) ht (TyX.base (.str z)) (by decide +kernel) (by decide +kernel) rfl q
theorem r_isiLT_lst {tp : Addr} (ht : H tp = some (.tup [.ty "list", .ty "tuple"])) {p : Addr} {xs : List V} (h : SqL K H p xs) (q : Q (.bl true) H) : rIsiT K [(.ref p), .ref tp] H Q := r_isiLT (b1 := true) (b2 := false) ht (ty_lst h) (by decide +kernel) (by decide +kernel) rfl q
theorem r_isiLT_tup {tp : Addr} (ht : H tp = some (.tup [.ty "list", .ty "tuple"])) {p : Addr} {xs : List V} (h : SqT K H p xs) (q : Q (.bl true) H) : rIsiT K [(.ref p), .ref tp] H Q := r_isiLT (b1 := false) (b2 := true) ht (ty_tup h) (by decide +kernel) (by decide +kernel) rfl q
theorem r_isi_non_int (q : Q (.bl false) H) : rIsi K [.non, .ty "int"] H Q := r_isi (TyX.base .non) (by decide +kernel) q
theorem r_isi_non_str (q : Q (.bl false) H) : rIsi K [.non, .ty "str"] H Q := r_isi (TyX.base .non) (by decide +kernel) q
theorem r_isi_non_list (q : Q (.bl false) H) : rIsi K [.non, .ty "list"] H Q := r_isi (TyX.base .non) (by decide +kernel) q
theorem r_isi_non_tuple (q : Q (.bl false) H) : rIsi K [.non, .ty "tuple"] H Q := r_isi (TyX.base .non) (by decide +kernel) q
theorem r_isi_non_bool (q : Q (.bl false) H) : rIsi K [.non, .ty "bool"] H Q := r_isi (TyX.base .non) (by decide +kernel) q
theorem r_isi_bl_int {b : Bool} (q : Q (.bl true) H) : rIsi K [(.bl b), .ty "int"] H Q := r_isi (TyX.base (.bl b)) (by decide +kernel) q
theorem r_isi_bl_str {b : Bool} (q : Q (.bl false) H) : rIsi K [(.bl b), .ty "str"] H Q := r_isi (TyX.base (.bl b)) (by decide +kernel) q
theorem r_isi_bl_list {b : Bool} (q : Q (.bl false) H) : rIsi K [(.bl b), .ty "list"] H Q := r_isi (TyX.base (.bl b)) (by decide +kernel) q
theorem r_isi_bl_tuple {b : Bool} (q : Q (.bl false) H) : rIsi K [(.bl b), .ty "tuple"] H Q := r_isi (TyX.base (.bl b)) (by decide +kernel) q
theorem r_isi_bl_bool {b : Bool} (q : Q (.bl true) H) : rIsi K [(.bl b), .ty "bool"] H Q := r_isi (TyX.base (.bl b)) (by decide +kernel) q
theorem r_isi_int_int {i : Int} (q : Q (.bl true) H) : rIsi K [(.int i), .ty "int"] H Q := r_isi (TyX.base (.int i)) (by decide +kernel) q
theorem r_isi_int_str {i : Int} (q : Q (.bl false) H) : rIsi K [(.int i), .ty "str"] H Q := r_isi (TyX.base (.int i)) (by decide +kernel) q
theorem r_isi_int_list {i : Int} (q : Q (.bl false) H) : rIsi K [(.int i), .ty "list"] H Q := r_isi (TyX.base (.int i)) (by decide +kernel) q
theorem r_isi_int_tuple {i : Int} (q : Q (.bl false) H) : rIsi K [(.int i), .ty "tuple"] H Q := r_isi (TyX.base (.int i)) (by decide +kernel) q
theorem r_isi_int_bool {i : Int} (q : Q (.bl false) H) : rIsi K [(.int i), .ty "bool"] H Q := r_isi (TyX.base (.int i)) (by decide +kernel) q
theorem r_isi_str_int {z : Str} (q : Q (.bl false) H) : rIsi K [(.str z), .ty "int"] H Q := r_isi (TyX.base (.str z)) (by decide +kernel) q
theorem r_isi_str_str {z : Str} (q : Q (.bl true) H) : rIsi K [(.str z), .ty "str"] H Q := r_isi (TyX.base (.str z)) (by decide +kernel) q
theorem r_isi_str_list {z : Str} (q : Q (.bl false) H) : rIsi K [(.str z), .ty "list"] H Q := r_isi (TyX.base (.str z)) (by decide +kernel) q
theorem r_isi_str_tuple {z : Str} (q : Q (.bl false) H) : rIsi K [(.str z), .ty "tuple"] H Q := r_isi (TyX.base (.str z)) (by decide +kernel) q
theorem r_isi_str_bool {z : Str} (q : Q (.bl false) H) : rIsi K [(.str z), .ty "bool"] H Q := r_isi (TyX.base (.str z)) (by decide +kernel) q
theorem r_isi_lst_int {p : Addr} {xs : List V} (h : SqL K H p xs) (q : Q (.bl false) H) : rIsi K [(.ref p), .ty "int"] H Q := r_isi (ty_lst h) (by decide +kernel) q
theorem r_isi_lst_str {p : Addr} {xs : List V} (h : SqL K H p xs) (q : Q (.bl false) H) : rIsi K [(.ref p), .ty "str"] H Q := r_isi (ty_lst h) (by decide +kernel) q
theorem r_isi_lst_list {p : Addr} {xs : List V} (h : SqL K H p xs) (q : Q (.bl true) H) : rIsi K [(.ref p), .ty "list"] H Q := r_isi (ty_lst h) (by decide +kernel) q
theorem r_isi_lst_tuple {p : Addr} {xs : List V} (h : SqL K H p xs) (q : Q (.bl false) H) : rIsi K [(.ref p), .ty "tuple"] H Q := r_isi (ty_lst h) (by decide +kernel) q
theorem r_isi_lst_bool {p : Addr} {xs : List V} (h : SqL K H p xs) (q : Q (.bl false) H) : rIsi K [(.ref p), .ty "bool"] H Q := r_isi (ty_lst h) (by decide +kernel) q
theorem r_isi_tup_int {p : Addr} {xs : List V} (h : SqT K H p xs) (q : Q (.bl false) H) : rIsi K [(.ref p), .ty "int"] H Q := r_isi (ty_tup h) (by decide +kernel) q
theorem r_isi_tup_str {p : Addr} {xs : List V} (h : SqT K H p xs) (q : Q (.bl false) H) : rIsi K [(.ref p), .ty "str"] H Q := r_isi (ty_tup h) (by decide +kernel) q
theorem r_isi_tup_list {p : Addr} {xs : List V} (h : SqT K H p xs) (q : Q (.bl false) H) : rIsi K [(.ref p), .ty "list"] H Q := r_isi (ty_tup h) (by decide +kernel) q
theorem r_isi_tup_tuple {p : Addr} {xs : List V} (h : SqT K H p xs) (q : Q (.bl true) H) : rIsi K [(.ref p), .ty "tuple"] H Q := r_isi (ty_tup h) (by decide +kernel) q
theorem r_isi_tup_bool {p : Addr} {xs : List V} (h : SqT K H p xs) (q : Q (.bl false) H) : rIsi K [(.ref p), .ty "bool"] H Q := r_isi (ty_tup h) (by decide +kernel) q
end
/-! ### plain values as data -/
def datV : V → PyData
  | .non => .none
  | .bl b => .bool b
  | .int i => .int i
  | .str z => .str z
  | _ => .none
def Sc : V → Prop
  | .non => True
  | .bl _ => True
  | .int _ => True
  | .str z => PyData.strOk z = true
  | _ => False
theorem dp_sc {K : PySem.W.Frag} {H : Hp} {v : V} (h : Sc v) : Dp K H v (datV v) := by
  cases v with
  | non => exact .non
  | bl b => exact .bl b
  | int i => exact .int i
  | str z => exact .str z
  | _ => exact h.elim
theorem dpAll_sc {K : PySem.W.Frag} {H : Hp} : ∀ {xs : List V}, (∀ v ∈ xs, Sc v) → DpAll K H xs (xs.map datV)
  | [], _ => .nil
  | v :: r, h => .cons (dp_sc (h v (List.mem_cons_self ..))) (dpAll_sc fun u hu => h u (List.mem_cons_of_mem _ hu))
theorem canLay_sc {v : V} (h : Sc v) : (datV v).canLay0 = true ∧ (datV v).depth = 0 := by
  cases v with
  | str z => exact ⟨by simpa [datV, PyData.canLay0] using (show PyData.strOk z = true from h), by simp [datV, PyData.depth]⟩
  | non => exact ⟨by simp [datV, PyData.canLay0], by simp [datV, PyData.depth]⟩
  | bl z => exact ⟨by simp [datV, PyData.canLay0], by simp [datV, PyData.depth]⟩
  | int z => exact ⟨by simp [datV, PyData.canLay0], by simp [datV, PyData.depth]⟩
  | _ => exact h.elim
theorem canLayAll_sc : ∀ {xs : List V}, (∀ v ∈ xs, Sc v) → PyData.canLayAll0 (xs.map datV) = true ∧ PyData.depthAll (xs.map datV) = 0
  | [], _ => ⟨by simp [PyData.canLayAll0], by simp [PyData.depthAll]⟩
  | v :: r, h => by
    have h1 := canLay_sc (h v (List.mem_cons_self ..))
    have h2 := canLayAll_sc (xs := r) fun u hu => h u (List.mem_cons_of_mem _ hu)
    exact ⟨by simp [PyData.canLayAll0, h1.1, h2.1], by simp [PyData.depthAll, h1.2, h2.2]⟩
theorem shaped_list {xs : List V} (h : ∀ v ∈ xs, Sc v) : SeqAt.shaped (.list (xs.map datV)) = true := by
  have h2 := canLayAll_sc h
  simp [SeqAt.shaped, PyData.canLay0, PyData.depth, h2.1, h2.2]
theorem shaped_tuple {xs : List V} (h : ∀ v ∈ xs, Sc v) : SeqAt.shaped (.tuple (xs.map datV)) = true := by
  have h2 := canLayAll_sc h
  simp [SeqAt.shaped, PyData.canLay0, PyData.depth, h2.1, h2.2]
theorem eqv_same {d : PyData} (h : SeqAt.shaped d = true) : PyData.eqv d d = true := SeqAt.eqv_refl d (SeqAt.canLay_of_shaped h)
theorem word_ok {m : Nat} {z : Str} (h : Word m z) : PyData.strOk z = true := by
  unfold PyData.strOk
  rw [← Array.all_toList, List.all_eq_true]
  intro c hc
  have := h.2 c hc
  exact decide_eq_true (by omega)
theorem str_ok {z : Str} (h : ∀ c ∈ z.cps.toList, c < 1114112) : PyData.strOk z = true := by
  unfold PyData.strOk
  rw [← Array.all_toList, List.all_eq_true]
  intro c hc
  exact decide_eq_true (h c hc)
theorem cls_ok {z : Str} (h : ClsN z) : PyData.strOk z = true := by
  obtain ⟨c, r, e, h1, h2, _⟩ := h
  refine str_ok fun d hd => ?_
  rw [e] at hd
  rcases List.mem_cons.mp hd with rfl | hd
  · omega
  · rcases h2 d hd with h | h <;> omega
/-- a bag just made: what stood before is what is seen without it -/
theorem hid_start {b : Addr} {H : Hp} {o : HO} (h : H b = none) : hid b (upd H b o) = H := by
  rw [hid_bag]
  funext a
  unfold hid
  by_cases e : a = b
  · rw [if_pos e, e, h]
  · rw [if_neg e]
theorem iteTc {c : Bool} {A B : Prop} (hc : c = true) (h : A) : if c = true then A else B := by rw [if_pos hc]; exact h
theorem iteFc {c : Bool} {A B : Prop} (hc : c = false) (h : B) : if c = true then A else B := by rw [hc, if_neg Bool.false_ne_true]; exact h
theorem iteY {p : Prop} {dp : Decidable p} {A B : Prop} (hc : p) (h : A) : if decide p = true then A else B := by rw [if_pos (decide_eq_true hc)]; exact h
theorem iteN {p : Prop} {dp : Decidable p} {A B : Prop} (hc : ¬ p) (h : B) : if decide p = true then A else B := by rw [if_neg (by simp [hc])]; exact h
theorem iteNY {p : Prop} {dp : Decidable p} {A B : Prop} (hc : p) (h : B) : if (!decide p) = true then A else B := by rw [if_neg (by simp [hc])]; exact h
theorem iteNN {p : Prop} {dp : Decidable p} {A B : Prop} (hc : ¬ p) (h : A) : if (!decide p) = true then A else B := by rw [if_pos (by simp [hc])]; exact h
theorem r_neDF {K : PySem.W.Frag} {H : Hp} {Q : VK} {x y : V} {d : PyData} (h1 : Dp K H x d) (h2 : Dp K H y d) (s : SeqAt.shaped d = true) (q : Q (.bl false) H) : rNeA K x y H Q := .inr ⟨d, d, h1, h2, s, s, by rw [eqv_same s]; exact q⟩
theorem r_eqDT {K : PySem.W.Frag} {H : Hp} {Q : VK} {x y : V} {d : PyData} (h1 : Dp K H x d) (h2 : Dp K H y d) (s : SeqAt.shaped d = true) (q : Q (.bl true) H) : rEqA K x y H Q := .inr ⟨d, d, h1, h2, s, s, by rw [eqv_same s]; exact q⟩
/-- the built-in names that stand -/
structure Bl (mg : Str → Option Value) : Prop where
  len : mg "len" = none
  abs : mg "abs" = none
  max : mg "max" = none
  min : mg "min" = none
  isinstance : mg "isinstance" = none
  range : mg "range" = none
  int : mg "int" = none
  str : mg "str" = none
  list : mg "list" = none
  tuple : mg "tuple" = none
  bool : mg "bool" = none
  dict : mg "dict" = none
  all : mg "all" = none
  any : mg "any" = none
  enumerate : mg "enumerate" = none
  sorted : mg "sorted" = none
  repr : mg "repr" = none
def blNames : List Str := ["len", "abs", "max", "min", "isinstance", "range", "int", "str", "list", "tuple", "bool", "dict", "all", "any", "enumerate", "sorted", "repr"]
/-! ### what is new -/
/-- what H' has at places that H did not have -/
def nov (H H' : Hp) : Hp := fun a => if (H a).isSome = true then none else H' a
theorem nov_get {H H' : Hp} {a : Addr} {o : HO} (h : nov H H' a = some o) : H a = none ∧ H' a = some o := by
  unfold nov at h
  cases e : H a with
  | none => rw [e, if_neg (by simp)] at h; exact ⟨rfl, h⟩
  | some u => rw [e, if_pos (show (some u).isSome = true from rfl)] at h; cases h
theorem nov_of {H H' : Hp} {a : Addr} {o : HO} (h1 : H a = none) (h2 : H' a = some o) : nov H H' a = some o := by
  unfold nov
  rw [h1, if_neg (by simp)]
  exact h2
theorem nov_ex {H H' : Hp} : Evl.Ex (nov H H') H' := fun _ _ h => (nov_get h).2
theorem Bag.some {b : Addr} {n : Nat} {H : Hp} (h : Bag b n H) : H b ≠ none := by
  obtain ⟨l, h1, _⟩ := h
  rw [h1]
  exact fun e => by cases e
theorem Drw.novm {b : Addr} {n : Nat} {H0 H1 H2 : Hp} (r : Drw b n H1 H2) (hb : H0 b ≠ none) : Evl.Ex (nov H0 H1) (nov H0 H2) := fun a o h => by
  obtain ⟨h1, h2⟩ := nov_get h
  have ne : a ≠ b := fun e => hb (by rw [← e]; exact h1)
  exact nov_of h1 (hid_get (r.ex _ _ (hid_of h2 ne)))
theorem Drw.dom {b : Addr} {n : Nat} {H0 H1 : Hp} (r : Drw b n H0 H1) {a : Addr} (h : H1 a = none) : H0 a = none := by
  cases e : H0 a with
  | none => rfl
  | some o =>
    by_cases hb : a = b
    · exact absurd (hb ▸ h) r.bag.some
    · have := hid_get (r.ex _ _ (hid_of e hb))
      rw [h] at this
      cases this
theorem Drw.base {b : Addr} {n : Nat} {H0 H1 H2 : Hp} (r : Drw b n H0 H1) : Evl.Ex (nov H1 H2) (nov H0 H2) := fun a o h => by
  obtain ⟨h1, h2⟩ := nov_get h
  exact nov_of (r.dom h1) h2
theorem Drw.baseL {b L : Addr} {n : Nat} {H0 H1 H2 : Hp} (r : Drw b n H0 H1) (hL : H1 L ≠ none) : Evl.Ex (nov H1 H2) (hid L (nov H0 H2)) := fun a o h => by
  refine hid_of (r.base a o h) fun e => hL ?_
  rw [← e]
  exact (nov_get h).1
theorem nov_hidb {b : Addr} {H H' : Hp} (hb : H b ≠ none) : Evl.Ex (nov H H') (hid b H') := fun a o h => by
  obtain ⟨h1, h2⟩ := nov_get h
  exact hid_of h2 fun e => hb (by rw [← e]; exact h1)
theorem hid_nov_upd {L : Addr} {H H' : Hp} {o : HO} : hid L (nov H (upd H' L o)) = hid L (nov H H') := by
  funext a
  unfold hid nov
  by_cases e : a = L
  · rw [if_pos e, if_pos e]
  · rw [if_neg e, if_neg e, upd_ne e]
theorem hid_mono {L : Addr} {H H' : Hp} (e : Evl.Ex H H') : Evl.Ex (hid L H) (hid L H') := fun a o h => hid_of (e a o (hid_get h)) (hid_ne h)
/-- a comprehension over a range whose elements are draws -/
theorem lc_draw {m : Nat} {b : Addr} {n c : Nat} {H2 : Hp} {L : Addr} {te : TE} {j : Nat} {vs : List Nat} {σ : L2.St} {Qd : Hp → Prop} (hL : H2 L = none) (hb : Bag b n H2) (hm : m ≤ 1000000) (Dat : Hp → V → Prop) (mono : ∀ G G' v, Evl.Ex G G' → Dat G v → Dat G' v)
    (hw : ∀ x, wipe ((wipe σ vs).set j (some x)) vs = wipe σ vs)
    (hel : ∀ i H', i < m → Drw b (n + c * i) H2 H' → ∀ Q' : VK, (∀ v H'', Dat (nov H' H'') v → Drw b (n + c * i + c) H' H'' → Q' v H'') → te ((wipe σ vs).set j (some (.int (0 + (i : Nat))))) H' Q')
    (q : ∀ H' xs, xs.length = m → (∀ v ∈ xs, Dat (hid L (nov H2 H')) v) → H' L = some (.lst xs) → L ≠ b → Drw b (n + c * m) H2 H' → Qd H') :
    ∃ W : Nat → Nat → Hp → Prop, (∃ m, W 0 m (upd H2 L (.lst []))) ∧ ∀ i k H, W i k H →
      ((Itr 0 m).stop i H ∧ Qd H) ∨ ((Itr 0 m).go i H ∧ ∃ Nx : Hp → Prop, (∀ H', Nx H' → ∃ m', m' < k ∧ W (i + 1) m' H') ∧ ∀ x H', (Itr 0 m).yld i H x H' → gName j x (wipe σ vs) H' fun σ2 H2 => wipe σ2 vs = wipe σ vs ∧ tYes σ2 H2 fun b H3 =>
        if b = true then te σ2 H3 fun y H4 => ∃ acc, H4 L = some (.lst acc) ∧ acc.length < sizeLine ∧ Nx (upd H4 L (.lst (acc ++ [y]))) else Nx H3) := by
  have nLb : L ≠ b := by
    obtain ⟨l, q1, _⟩ := hb
    exact (ne_of_none q1 hL).symm
  refine lc_range (lo := 0) (n := m) (fun i H' => ∃ xs : List V, xs.length = i ∧ (∀ v ∈ xs, Dat (hid L (nov H2 H')) v) ∧ H' L = some (.lst xs) ∧ Drw b (n + c * i) H2 H') ?_ ?_ ?_
  · exact ⟨[], rfl, fun _ h => by (cases h), upd_same, (hb.new hL).1⟩
  · rintro i H' hi ⟨xs, hl, hI, h1, r1⟩
    refine ⟨hw _, r_yes (iteT ?_)⟩
    refine hel i H' hi r1 _ fun v H3 hv r2 => ?_
    have hL3 : H3 L = some (.lst xs) := hid_get (r2.ex _ _ (hid_of h1 nLb))
    refine ⟨xs, hL3, by rw [sizeLine_eq]; omega, xs ++ [v], by simp [hl], ?_, upd_same, ?_⟩
    · intro u hu
      rw [hid_nov_upd]
      rcases List.mem_append.mp hu with hu | hu
      · exact mono _ _ _ (hid_mono (r2.novm hb.some)) (hI u hu)
      · rw [List.mem_singleton.mp hu]
        exact mono _ _ _ (r1.baseL (by rw [h1]; exact fun e => by cases e)) hv
    · exact (Drw.put (r1.trans r2) (hid_none hL) nLb).mono (by rw [Nat.mul_succ]; omega)
  · rintro H' ⟨xs, hl, hI, h1, r1⟩
    exact q H' xs hl hI h1 nLb r1

/-! ### what a value is, by its data -/
def smallL : List Nat := (List.range 26).map (· + 97)
def capsL : List Nat := (List.range 26).map (· + 65)
def isWordS (z : Str) (m : Int) : Bool := decide ((z.length : Int) ≤ m) && z.cps.toList.all fun c => decide (c ∈ smallL)
def isWordD (m : Int) : PyData → Bool
  | .str z => isWordS z m
  | _ => false
def isIntD : PyData → Bool
  | .int _ => true
  | _ => false
def isItemD : PyData → Bool
  | .none => true
  | .int _ => true
  | .str z => isWordS z 30
  | _ => false
def isClsS (z : Str) : Bool := match z.cps.toList with
  | [] => false
  | c :: r => decide (r.length ≤ 11) && (decide (c ∈ capsL) && (c :: r).all fun d => decide (d ∈ smallL) || decide (d ∈ capsL))
def isClsD : PyData → Bool
  | .str z => isClsS z
  | _ => false
def isNonD : PyData → Bool
  | .none => true
  | _ => false
def isRaisedD : PyData → Bool
  | .tuple [.str a, b, c] => decide (a = "raises") && (isClsD b && (isNonD c || isClsD c))
  | _ => false
theorem raised_len {xs : List PyData} (h : xs.length ≠ 3) : isRaisedD (.tuple xs) = false := by
  unfold isRaisedD
  split
  · rename_i a b c e
    injection e with e
    subst e
    exact absurd rfl h
  · rfl
theorem raised_fst {a b c : PyData} (h : ∀ z, a ≠ .str z) : isRaisedD (.tuple [a, b, c]) = false := by
  unfold isRaisedD
  split
  · rename_i a' b' c' e
    injection e with e
    injection e with e1 e2
    exact absurd e1 (h a')
  · rfl
def isAnswerD : PyData → Bool
  | .list xs => xs.all isItemD
  | d => isItemD d || isRaisedD d
mutual
def fit : PyData → Bool
  | .none => true
  | .bool _ => true
  | .int _ => true
  | .str z => decide (z.length ≤ 100000) && PyData.strOk z
  | .list xs => decide (xs.length ≤ 100000) && fitAll xs
  | .tuple xs => decide (xs.length ≤ 100000) && fitAll xs
  | .dict _ => false
def fitAll : List PyData → Bool
  | [] => true
  | d :: r => fit d && fitAll r
end
theorem fit_str {z : Str} (h : fit (.str z) = true) : z.length ≤ 100000 ∧ PyData.strOk z = true := by
  rw [fit, Bool.and_eq_true, decide_eq_true_eq] at h
  exact h
theorem fit_list {xs : List PyData} (h : fit (.list xs) = true) : xs.length ≤ 100000 ∧ fitAll xs = true := by
  rw [fit, Bool.and_eq_true, decide_eq_true_eq] at h
  exact h
theorem fit_tuple {xs : List PyData} (h : fit (.tuple xs) = true) : xs.length ≤ 100000 ∧ fitAll xs = true := by
  rw [fit, Bool.and_eq_true, decide_eq_true_eq] at h
  exact h
theorem fitAll_mem : ∀ {xs : List PyData} {d : PyData}, fitAll xs = true → d ∈ xs → fit d = true
  | x :: r, d, h, m => by
    rw [fitAll, Bool.and_eq_true] at h
    rcases List.mem_cons.mp m with rfl | m
    · exact h.1
    · exact fitAll_mem h.2 m
theorem fitAll_of : ∀ {xs : List PyData}, (∀ d ∈ xs, fit d = true) → fitAll xs = true
  | [], _ => by rw [fitAll]
  | x :: r, h => by rw [fitAll, h x (List.mem_cons_self ..), fitAll_of fun d m => h d (List.mem_cons_of_mem _ m)]; rfl
mutual
theorem fit_lay : ∀ {d : PyData}, fit d = true → d.canLay0 = true
  | .none, _ => by rw [PyData.canLay0]
  | .bool _, _ => by rw [PyData.canLay0]
  | .int _, _ => by rw [PyData.canLay0]
  | .str z, h => by rw [PyData.canLay0]; exact (fit_str h).2
  | .list xs, h => by rw [PyData.canLay0]; exact fitAll_lay (fit_list h).2
  | .tuple xs, h => by rw [PyData.canLay0]; exact fitAll_lay (fit_tuple h).2
  | .dict _, h => by simp [fit] at h
theorem fitAll_lay : ∀ {xs : List PyData}, fitAll xs = true → PyData.canLayAll0 xs = true
  | [], _ => by rw [PyData.canLayAll0]
  | x :: r, h => by
    rw [fitAll, Bool.and_eq_true] at h
    rw [PyData.canLayAll0, fit_lay h.1, fitAll_lay h.2]
    rfl
end
/-- a def of one value that only reads it -/
def spB1 (K : PySem.W.Frag) (f : PyData → Bool) : Sp := fun vs H Q _ => ∃ (v : V) (d : PyData), vs = [v] ∧ Dp K H v d ∧ fit d = true ∧ ∀ H', Evl.Ex H H' → Q (.bl (f d)) H'
/-- a value that is plain data, at most so deep -/
def Dv (K : PySem.W.Frag) (H : Hp) (m : Nat) (v : V) : Prop := ∃ d, Dp K H v d ∧ fit d = true ∧ d.depth ≤ m
theorem dv_non {K : PySem.W.Frag} {H : Hp} {m : Nat} : Dv K H m .non := ⟨_, .non, by rw [fit], by simp [PyData.depth]⟩
theorem dv_bl {K : PySem.W.Frag} {H : Hp} {m : Nat} {b : Bool} : Dv K H m (.bl b) := ⟨_, .bl b, by rw [fit], by simp [PyData.depth]⟩
theorem dv_int {K : PySem.W.Frag} {H : Hp} {m : Nat} {i : Int} : Dv K H m (.int i) := ⟨_, .int i, by rw [fit], by simp [PyData.depth]⟩
theorem dv_str {K : PySem.W.Frag} {H : Hp} {m : Nat} {z : Str} (h1 : z.length ≤ 100000) (h2 : PyData.strOk z = true) : Dv K H m (.str z) := ⟨_, .str z, by rw [fit, h2, Bool.and_true]; exact decide_eq_true h1, by simp [PyData.depth]⟩
theorem Bag.ex {b : Addr} {n : Nat} {H H' : Hp} (h : Bag b n H) (e : Evl.Ex H H') : Drw b n H H' := by
  obtain ⟨l, h1, h2⟩ := h
  refine ⟨fun a o ha => hid_of (e _ _ (hid_get ha)) (hid_ne ha), l, e _ _ h1, h2⟩
mutual
theorem Dp.mono {K : PySem.W.Frag} {H H' : Hp} (e : Evl.Ex H H') : ∀ {d : PyData} {v : V}, Dp K H v d → Dp K H' v d
  | _, _, .non => .non
  | _, _, .bl b => .bl b
  | _, _, .int i => .int i
  | _, _, .str x => .str x
  | _, _, .lst s r => .lst (Evl.ex_l e s) (DpAll.mono e r)
  | _, _, .tup s r => .tup (Evl.ex_t e s) (DpAll.mono e r)
theorem DpAll.mono {K : PySem.W.Frag} {H H' : Hp} (e : Evl.Ex H H') : ∀ {ds : List PyData} {vs : List V}, DpAll K H vs ds → DpAll K H' vs ds
  | _, _, .nil => .nil
  | _, _, .cons a r => .cons (Dp.mono e a) (DpAll.mono e r)
end
theorem DpAll.length {K : PySem.W.Frag} {H : Hp} : ∀ {vs : List V} {ds : List PyData}, DpAll K H vs ds → vs.length = ds.length
  | _, _, .nil => rfl
  | _, _, .cons _ r => congrArg Nat.succ (DpAll.length r)
theorem DpAll.get {K : PySem.W.Frag} {H : Hp} : ∀ {vs : List V} {ds : List PyData} {i : Nat} {v : V}, DpAll K H vs ds → vs[i]? = some v → ∃ d, ds[i]? = some d ∧ Dp K H v d
  | _, _, i, v, .nil, e => by simp at e
  | _, _, 0, v, .cons a r, e => by
    simp at e
    subst e
    exact ⟨_, rfl, a⟩
  | _, _, i + 1, v, .cons a r, e => by
    obtain ⟨d, h1, h2⟩ := DpAll.get (i := i) (v := v) r (by simpa using e)
    exact ⟨d, by simpa using h1, h2⟩
theorem Dv.mono {K : PySem.W.Frag} {H H' : Hp} {m n : Nat} {v : V} (e : Evl.Ex H H') (h : m ≤ n) (d : Dv K H m v) : Dv K H' n v := by
  obtain ⟨d, h1, h2, h3⟩ := d
  exact ⟨d, Dp.mono e h1, h2, Nat.le_trans h3 h⟩
theorem dvAll {K : PySem.W.Frag} {H : Hp} {m : Nat} : ∀ {xs : List V}, (∀ v ∈ xs, Dv K H m v) → ∃ ds, DpAll K H xs ds ∧ fitAll ds = true ∧ PyData.depthAll ds ≤ m
  | [], _ => ⟨[], .nil, by rw [fitAll], by simp [PyData.depthAll]⟩
  | v :: r, h => by
    obtain ⟨d, h1, h2, h3⟩ := h v (List.mem_cons_self ..)
    obtain ⟨ds, k1, k2, k3⟩ := dvAll (xs := r) fun u hu => h u (List.mem_cons_of_mem _ hu)
    refine ⟨d :: ds, .cons h1 k1, by rw [fitAll, h2, k2]; rfl, ?_⟩
    rw [PyData.depthAll]
    omega
theorem dv_lst {K : PySem.W.Frag} {H : Hp} {m : Nat} {a : Addr} {xs : List V} (s : SqL K H a xs) (h : ∀ v ∈ xs, Dv K H m v) (hl : xs.length ≤ 100000) : Dv K H (m + 1) (.ref a) := by
  obtain ⟨ds, k1, k2, k3⟩ := dvAll h
  refine ⟨.list ds, .lst s k1, by rw [fit, k2, Bool.and_true, ← DpAll.length k1]; exact decide_eq_true hl, ?_⟩
  rw [PyData.depth]
  omega
theorem dv_tup {K : PySem.W.Frag} {H : Hp} {m : Nat} {a : Addr} {xs : List V} (s : SqT K H a xs) (h : ∀ v ∈ xs, Dv K H m v) (hl : xs.length ≤ 100000) : Dv K H (m + 1) (.ref a) := by
  obtain ⟨ds, k1, k2, k3⟩ := dvAll h
  refine ⟨.tuple ds, .tup s k1, by rw [fit, k2, Bool.and_true, ← DpAll.length k1]; exact decide_eq_true hl, ?_⟩
  rw [PyData.depth]
  omega
theorem SqL.len {K : PySem.W.Frag} {H : Hp} {a : Addr} {xs : List V} {P : Program} {w : World} {h : Heap} (o : HOk P w H h) (s : SqL K H a xs) : xs.length ≤ sizeLine := by
  rcases s with (s | ⟨b, s⟩) | ⟨o, its, n, _, _, _, _, s, r⟩
  · exact (o a _ s).1
  · exact (o a _ s).2.1
  · rw [r.length, Array.length_toList]
    exact s

/-! ### the head's facts -/
theorem at_of {fa : List He.Fa} {fn : List He.DefD} {K : PySem.W.Frag} {mg : Str → Option Value} {h : Heap} {x : Str} {st : Stmt} (X : K.In h) (G : h.Ns mainGlobals mg) (c : He.SaysD fa fn K) (i j : Nat)
    (h1 : fn[i]? = some ⟨(x, none), x, x, defArgs st, defBody st, defScope st, [], []⟩ := by rfl) (h2 : fa[j]? = some (.glo x) := by rfl) : At K mg x st := by
  obtain ⟨fd, F⟩ := c.def_ i h1
  exact ⟨_, fd, F, He.glo_ok X G (c.fact j h2)⟩
theorem atD_of {fa : List He.Fa} {fn : List He.DefD} {K : PySem.W.Frag} {mg : Str → Option Value} {h : Heap} {x : Str} {st : Stmt} {dfl : List He.Dv} {kwd : List (Str × He.Dv)} (X : K.In h) (G : h.Ns mainGlobals mg) (c : He.SaysD fa fn K) (i j : Nat)
    (h1 : fn[i]? = some ⟨(x, none), x, x, defArgs st, defBody st, defScope st, dfl, kwd⟩ := by rfl) (h2 : fa[j]? = some (.glo x) := by rfl) : AtD K mg x st (dfl.map (He.Dv.v K)) (kwd.map fun q => (q.1, q.2.v K)) := by
  obtain ⟨fd, F⟩ := c.def_ i h1
  exact ⟨_, fd, F, He.glo_ok X G (c.fact j h2)⟩
theorem gs_of {fa : List He.Fa} {fn : List He.DefD} {K : PySem.W.Frag} {mg : Str → Option Value} {h : Heap} {x z : Str} (X : K.In h) (G : h.Ns mainGlobals mg) (c : He.SaysD fa fn K) (j : Nat) (h2 : fa[j]? = some (.str x z) := by rfl) : ∃ u, mg x = some u ∧ RelV (.str z) u := by
  obtain ⟨t, e⟩ := He.str_ok X G (c.fact j h2)
  exact ⟨_, e, t, rfl⟩
def blFa : List He.Fa := [.free "len", .free "abs", .free "max", .free "min", .free "isinstance", .free "range", .free "int", .free "str", .free "list", .free "tuple", .free "bool", .free "dict", .free "all", .free "any", .free "enumerate", .free "sorted", .free "repr"]
theorem bl_of {fa : List He.Fa} {fn : List He.DefD} {K : PySem.W.Frag} {mg : Str → Option Value} {h : Heap} (X : K.In h) (G : h.Ns mainGlobals mg) (c : He.SaysD (blFa ++ fa) fn K) : Bl mg where
  len := He.free_ok X G (c.fact 0 (f := .free "len") rfl)
  abs := He.free_ok X G (c.fact 1 (f := .free "abs") rfl)
  max := He.free_ok X G (c.fact 2 (f := .free "max") rfl)
  min := He.free_ok X G (c.fact 3 (f := .free "min") rfl)
  isinstance := He.free_ok X G (c.fact 4 (f := .free "isinstance") rfl)
  range := He.free_ok X G (c.fact 5 (f := .free "range") rfl)
  int := He.free_ok X G (c.fact 6 (f := .free "int") rfl)
  str := He.free_ok X G (c.fact 7 (f := .free "str") rfl)
  list := He.free_ok X G (c.fact 8 (f := .free "list") rfl)
  tuple := He.free_ok X G (c.fact 9 (f := .free "tuple") rfl)
  bool := He.free_ok X G (c.fact 10 (f := .free "bool") rfl)
  dict := He.free_ok X G (c.fact 11 (f := .free "dict") rfl)
  all := He.free_ok X G (c.fact 12 (f := .free "all") rfl)
  any := He.free_ok X G (c.fact 13 (f := .free "any") rfl)
  enumerate := He.free_ok X G (c.fact 14 (f := .free "enumerate") rfl)
  sorted := He.free_ok X G (c.fact 15 (f := .free "sorted") rfl)
  repr := He.free_ok X G (c.fact 16 (f := .free "repr") rfl)
end WP

set_option Elab.async false
set_option linter.all false
set_option maxRecDepth 100000
set_option maxHeartbeats 4000000
namespace WP
open PySem PySem.Spec PyProof.Rows L2

/-! ### a hook with one more Bool -/
def obsE (n : Nat) (fa : List He.Fa) (fn : List He.DefD) (ex : PySem.W.Frag → Bool) (g : Addr → Option Obj) : He.AlD × Bool := (He.obsD fa fn (He.frG g (He.asD g n)), ex (He.frG g (He.asD g n)))
def hookE (n : Nat) (fa : List He.Fa) (fn : List He.DefD) (ex : PySem.W.Frag → Bool) : PySem.W.Hook where
  α := He.AlD × Bool
  obs := fun s => obsE n fa fn ex s.heap.get?
  val := fun _ => (He.valD fn, true)
  says := fun _ h => ∃ K : PySem.W.Frag, K.In h ∧ He.SaysD fa fn K ∧ ex K = true
  of := fun _ _ e => ⟨_, He.frG_in, congrArg (fun z : He.AlD × Bool => z.1) e, congrArg (fun z : He.AlD × Bool => z.2) e⟩
  keeps := fun _ _ _ ⟨K, hK, c⟩ k => ⟨K, PySem.W.Frag.In.keeps hK k, c⟩
theorem obsE_eq {n : Nat} {fa : List He.Fa} {fn : List He.DefD} {ex : PySem.W.Frag → Bool} {g : Addr → Option Obj} {s : Shared} (h : ∀ a, g a = s.heap.get? a) : obsE n fa fn ex g = (hookE n fa fn ex).obs s := by
  have e : g = s.heap.get? := funext h
  subst e
  rfl

/-! ### several targets -/
theorem pg_tupA {X : Cx} (K : PySem.W.Frag) {es : List Expr} {k : Nat} {pos : Pos} {n : Nat} {t : TGs} (h : PG X (.Tuple es k pos) (gTup X.K n t)) (e : X.K = K := by rfl) : PG X (.Tuple es k pos) (gTup K n t) := by subst e; exact h
section
variable {K : PySem.W.Frag} {σ : L2.St} {H : Hp} {R : L2.St → Hp → Prop} {v : V} {n : Nat} {t : TG} {ts : TGs}
theorem r_gTup {a : Addr} {xs : List V} (h : SqT K H a xs) (hl : xs.length = n) (q : ts xs σ H R) : gTup K n ts (.ref a) σ H R := ⟨a, xs, rfl, h, hl, q⟩
theorem r_gCons {r : List V} (q : t v σ H fun σ' H' => ts r σ' H' R) : gCons t ts (v :: r) σ H R := ⟨v, r, rfl, q⟩
theorem r_gNil (q : R σ H) : gNil [] σ H R := ⟨rfl, q⟩
theorem r_asgT {te : TE} {g : TG} {D : Ends} (q : te σ H fun x H1 => g x σ H1 D.nx) : tAsg te g D σ H := q
end

/-! ### texts by their signs -/
abbrev tl (z : Str) : List Nat := z.cps.toList
theorem tl_length (z : Str) : (tl z).length = z.length := by simp [Str.length]
theorem tl_ext {x y : Str} (h : tl x = tl y) : x = y := TL.ext_tl h
theorem tl_inj {x y : Str} : x = y ↔ tl x = tl y := ⟨fun h => by rw [h], tl_ext⟩
theorem tl_app (x y : Str) : tl (x ++ y) = tl x ++ tl y := TL.tl_append x y
theorem str_eta (z : Str) : (⟨(tl z).toArray⟩ : Str) = z := tl_ext rfl
theorem sub_one {z : Str} {c i : Nat} (h : i < z.length) : Builtin.Str.subAt z ⟨#[c]⟩ i = decide ((tl z)[i]? = some c) := by
  have hi : i < z.cps.size := h
  have e2 : z.cps.extract i (i + 1) = #[z.cps[i]] := by
    apply Array.ext
    · simp; omega
    · intro j h1 h2
      simp at h1 h2
      have : j = 0 := by omega
      subst this
      simp
  show (z.cps.extract i (i + 1) == #[c]) = _
  rw [e2]
  have e3 : (tl z)[i]? = some z.cps[i] := by simp [tl, hi]
  rw [e3]
  by_cases hc : z.cps[i] = c
  · rw [hc]; simp
  · have : ¬ (#[z.cps[i]] = #[c]) := fun e => hc (by simpa using e)
    rw [beq_eq_false_iff_ne.mpr this, decide_eq_false (by simpa using hc)]
theorem starts_one (z : Str) (c : Nat) : Txt.startswith z ⟨#[c]⟩ = decide ((tl z).head? = some c) := by
  show (decide (0 + 1 ≤ z.length) && Builtin.Str.subAt z ⟨#[c]⟩ 0) = _
  by_cases h : 0 < z.length
  · rw [sub_one h, decide_eq_true (by omega : 0 + 1 ≤ z.length), Bool.true_and, List.head?_eq_getElem?]
  · rw [decide_eq_false (by omega : ¬ 0 + 1 ≤ z.length), Bool.false_and]
    have : tl z = [] := List.eq_nil_of_length_eq_zero (by rw [tl_length]; omega)
    rw [this]; rfl
theorem ends_one (z : Str) (c : Nat) : Txt.endswith z ⟨#[c]⟩ = decide ((tl z).getLast? = some c) := by
  show (decide (0 + 1 ≤ z.length) && Builtin.Str.subAt z ⟨#[c]⟩ (z.length - 1)) = _
  by_cases h : 0 < z.length
  · rw [sub_one (by omega), decide_eq_true (by omega : 0 + 1 ≤ z.length), Bool.true_and, List.getLast?_eq_getElem?, tl_length]
  · rw [decide_eq_false (by omega : ¬ 0 + 1 ≤ z.length), Bool.false_and]
    have : tl z = [] := List.eq_nil_of_length_eq_zero (by rw [tl_length]; omega)
    rw [this]; rfl
theorem cut_tl (z : Str) (lo hi : Option Int) : tl (cutS z lo hi) = ((tl z).drop (HT.sIx z.length 0 lo)).take (HT.sIx z.length z.length hi - HT.sIx z.length 0 lo) := rfl
/-- z[1:] -/
theorem cut_tail (z : Str) : tl (cutS z (some 1) none) = (tl z).tail := by
  rw [cut_tl]
  have e1 : HT.sIx z.length 0 (some 1) = min 1 z.length := HT.sIx_nat z.length 0 1
  rw [e1, HT.sIx_none]
  cases h : tl z with
  | nil => simp
  | cons c r =>
    have : z.length = r.length + 1 := by rw [← tl_length, h, List.length_cons]
    rw [this]
    have : min 1 (r.length + 1) = 1 := by omega
    rw [this]
    simp
/-- z[:-1] -/
theorem cut_init (z : Str) : tl (cutS z none (some (-1))) = (tl z).dropLast := by
  rw [cut_tl, HT.sIx_none]
  have e1 : HT.sIx z.length z.length (some (-1)) = z.length - 1 := by
    show (if (-1 : Int) < 0 then ((-1 : Int) + (z.length : Int)).toNat else min (-1 : Int).toNat z.length) = _
    rw [if_pos (by omega)]
    omega
  rw [e1, List.drop_zero, List.dropLast_eq_take, tl_length]
  simp
/-- z[1:-1] -/
theorem cut_mid (z : Str) : tl (cutS z (some 1) (some (-1))) = (tl z).tail.dropLast := by
  rw [cut_tl]
  have e1 : HT.sIx z.length 0 (some 1) = min 1 z.length := HT.sIx_nat z.length 0 1
  have e2 : HT.sIx z.length z.length (some (-1)) = z.length - 1 := by
    show (if (-1 : Int) < 0 then ((-1 : Int) + (z.length : Int)).toNat else min (-1 : Int).toNat z.length) = _
    rw [if_pos (by omega)]
    omega
  rw [e1, e2]
  cases h : tl z with
  | nil => simp
  | cons c r =>
    have hl : z.length = r.length + 1 := by rw [← tl_length, h, List.length_cons]
    rw [hl]
    have : min 1 (r.length + 1) = 1 := by omega
    rw [this]
    show List.take (r.length + 1 - 1 - 1) r = r.dropLast
    rw [List.dropLast_eq_take]
    congr 1

/-! ### constants, names, calls by their signs -/
def digitsL : List Nat := (List.range 10).map (· + 48)
def isWordL (t : List Nat) (m : Nat) : Bool := decide (t.length ≤ m) && t.all fun c => decide (c ∈ smallL)
def numBody (t : List Nat) : List Nat := if t.head? = some 45 then t.tail else t
def isNumL (t : List Nat) : Bool := (decide (1 ≤ (numBody t).length) && decide ((numBody t).length ≤ 30)) && ((numBody t).all (fun c => decide (c ∈ digitsL)) && (!decide ((numBody t).head? = some 48) || decide (t = [48])))
def noneL : List Nat := [110, 111, 110, 101]
def isConstL (t : List Nat) : Bool := if 2 ≤ t.length ∧ t.head? = some 34 ∧ t.getLast? = some 34 then isWordL t.tail.dropLast 8 else (decide (t = noneL) || isNumL t)
def kwS : List Str := (["and", "assert", "assume", "break", "call", "clear", "continue", "else", "end", "error", "except", "fail", "for", "from", "if", "in", "is", "len", "let", "list", "none", "not", "number", "on", "or", "pass", "raises", "return", "set", "skip", "test", "try", "under", "word"] : List String).map Str.ofString
def isNameL (t : List Nat) : Bool := isWordL t 12 && (decide (t ≠ []) && !(kwS.any fun k => decide (tl k = t)))
def wordsL (r : List Nat) : List (List Nat) := if r = [] then [] else TL.spl [44, 32] 0 [] r
def isCallL (t : List Nat) : Bool := decide (t.getLast? = some 41) && (match TL.par [40] [] t.dropLast with
  | none => false
  | some (n, r) => isNameL n && (decide ((wordsL r).length ≤ 3) && (wordsL r).all isConstL))
theorem isWordS_L (z : Str) (m : Nat) : isWordS z (m : Int) = isWordL (tl z) m := by
  unfold isWordS isWordL
  congr 1
  exact decide_eq_decide.mpr (by rw [tl_length]; omega)
theorem spl_mem {S : List Nat} : ∀ (l : List Nat) (k : Nat) (acc : List Nat) (p : List Nat), p ∈ TL.spl S k acc l → p.length ≤ acc.length + l.length ∧ ∀ c ∈ p, c ∈ acc ∨ c ∈ l
  | [], k, acc, p, h => by
    rw [TL.spl_nil, List.mem_singleton] at h
    subst h
    exact ⟨by simp, fun c hc => .inl hc⟩
  | c :: r, 0, acc, p, h => by
    by_cases hp : TL.pre S (c :: r) = true
    · rw [TL.spl_hit hp] at h
      rcases List.mem_cons.mp h with rfl | h
      · exact ⟨by simp, fun c hc => .inl hc⟩
      · obtain ⟨h1, h2⟩ := spl_mem r _ [] p h
        exact ⟨by simp at h1 ⊢; omega, fun d hd => by rcases h2 d hd with h | h; cases h; exact .inr (List.mem_cons_of_mem _ h)⟩
    · rw [TL.spl_miss (by simpa using hp)] at h
      obtain ⟨h1, h2⟩ := spl_mem r 0 (acc ++ [c]) p h
      refine ⟨by simp at h1 ⊢; omega, fun d hd => ?_⟩
      rcases h2 d hd with h | h
      · rcases List.mem_append.mp h with h | h
        · exact .inl h
        · rw [List.mem_singleton.mp h]; exact .inr (List.mem_cons_self ..)
      · exact .inr (List.mem_cons_of_mem _ h)
  | c :: r, k + 1, acc, p, h => by
    obtain ⟨h1, h2⟩ := spl_mem r k acc p (show p ∈ TL.spl S k acc r from h)
    exact ⟨by simp; omega, fun d hd => by rcases h2 d hd with h | h; exact .inl h; exact .inr (List.mem_cons_of_mem _ h)⟩
theorem par_mem {S : List Nat} : ∀ (l acc a b : List Nat), TL.par S acc l = some (a, b) → (∀ c ∈ a, c ∈ acc ∨ c ∈ l) ∧ (∀ c ∈ b, c ∈ l) ∧ a.length ≤ acc.length + l.length ∧ b.length ≤ l.length
  | [], acc, a, b, h => by cases h
  | c :: r, acc, a, b, h => by
    have h' : (if TL.pre S (c :: r) = true then some (acc, (c :: r).drop S.length) else TL.par S (acc ++ [c]) r) = some (a, b) := h
    by_cases hp : TL.pre S (c :: r) = true
    · rw [if_pos hp] at h'
      injection h' with h'
      injection h' with e1 e2
      subst e1 e2
      exact ⟨fun c hc => .inl hc, fun d hd => List.mem_of_mem_drop hd, by omega, by simp⟩
    · rw [if_neg hp] at h'
      obtain ⟨h1, h2, h3, h4⟩ := par_mem r (acc ++ [c]) a b h'
      refine ⟨fun d hd => ?_, fun d hd => List.mem_cons_of_mem _ (h2 d hd), by simp at h3 ⊢; omega, by simp; omega⟩
      rcases h1 d hd with h | h
      · rcases List.mem_append.mp h with h | h
        · exact .inl h
        · rw [List.mem_singleton.mp h]; exact .inr (List.mem_cons_self ..)
      · exact .inr (List.mem_cons_of_mem _ h)
theorem strOk_iff {z : Str} : PyData.strOk z = true ↔ ∀ c ∈ tl z, c < 1114112 := by
  unfold PyData.strOk
  rw [← Array.all_toList, List.all_eq_true]
  exact ⟨fun h c hc => of_decide_eq_true (h c hc), fun h c hc => decide_eq_true (h c hc)⟩
theorem fit_of {z : Str} (h1 : (tl z).length ≤ 100000) (h2 : ∀ c ∈ tl z, c < 1114112) : fit (.str z) = true := by
  rw [fit, strOk_iff.mpr h2, Bool.and_true]
  exact decide_eq_true (by rw [← tl_length]; exact h1)
def isNameD : PyData → Bool
  | .str z => isNameL (tl z)
  | _ => false
def isCallD : PyData → Bool
  | .str z => isCallL (tl z)
  | _ => false
/-- a value's truth, with K written out (for tests inside a comprehension's block) -/
def tTruA (K : PySem.W.Frag) (ta : TE) : TT := fun σ H Q => ta σ H fun x H' => ∃ k, TruV K x H' k ∧ Q k H'
theorem pt_truthA {X : Cx} {a : Expr} {ta : TE} (K : PySem.W.Frag) (ha : PE X a ta) (he : ∀ whole, isTrue a X.env whole = (do let v ← whole; standAt a.pos; holding [v] (truthy v))) (h : X.K = K := by rfl) : PT X a (tTruA K ta) := by
  subst h
  exact pt_truth ha he
theorem r_tru {K : PySem.W.Frag} {ta : TE} {σ : L2.St} {H : Hp} {Q : Bool → Hp → Prop} (h : ta σ H fun x H' => ∃ k, TruV K x H' k ∧ Q k H') : tTruA K ta σ H Q := h
end WP

set_option Elab.async false
set_option linter.all false
set_option maxRecDepth 100000
set_option maxHeartbeats 4000000
/-! calls as texts: plain mathematics -/
namespace WP
open PySem PySem.Spec PyProof.Rows L2

/-! ### numbers -/
theorem int_text (i : Int) : tl (Str.ofString (toString i)) = if i < 0 then 45 :: TL.numL i.natAbs else TL.numL i.natAbs := by
  by_cases h : i < 0
  · rw [if_pos h]
    obtain ⟨n, rfl⟩ : ∃ n : Nat, i = Int.negSucc n := by
      cases i with
      | ofNat n => exact absurd h (by simp)
      | negSucc n => exact ⟨n, rfl⟩
    have e1 : toString (Int.negSucc n) = "-" ++ toString ((n + 1 : Nat) : Int) := rfl
    show (Str.ofString (toString (Int.negSucc n))).cps.toList = 45 :: TL.numL (n + 1)
    rw [e1, signs_ofString, String.toList_append, List.map_append, ← signs_ofString, ← signs_ofString, show (Str.ofString (toString ((n + 1 : Nat) : Int))).cps.toList = TL.numL (n + 1) from TL.tl_num (n + 1)]
    rfl
  · rw [if_neg h]
    obtain ⟨n, rfl⟩ := Int.eq_ofNat_of_zero_le (by omega : 0 ≤ i)
    exact TL.tl_num n
theorem numL_head {n : Nat} (h : 0 < n) : (TL.numL n).head? ≠ some 48 := by
  induction n using Nat.strongRecOn with
  | _ n ih =>
    by_cases h10 : n < 10
    · rw [TL.numL_lt h10]
      intro e
      have : 48 + n = 48 := by simpa using e
      omega
    · have ih2 := ih (n / 10) (by omega) (by omega)
      rw [TL.numL_step (by omega)]
      cases e : TL.numL (n / 10) with
      | nil => exact absurd e (TL.numL_ne _)
      | cons a r =>
        rw [e] at ih2
        exact ih2
theorem dig_mem {c : Nat} : c ∈ digitsL ↔ 48 ≤ c ∧ c ≤ 57 := by
  unfold digitsL
  rw [List.mem_map]
  constructor
  · rintro ⟨x, hx, rfl⟩
    have := List.mem_range.mp hx
    omega
  · rintro ⟨h1, h2⟩
    exact ⟨c - 48, List.mem_range.mpr (by omega), by omega⟩
theorem small_mem {c : Nat} : c ∈ smallL ↔ 97 ≤ c ∧ c ≤ 122 := by
  unfold smallL
  rw [List.mem_map]
  constructor
  · rintro ⟨x, hx, rfl⟩
    have := List.mem_range.mp hx
    omega
  · rintro ⟨h1, h2⟩
    exact ⟨c - 97, List.mem_range.mpr (by omega), by omega⟩
theorem num_all (n : Nat) : (TL.numL n).all (fun c => decide (c ∈ digitsL)) = true := by
  rw [List.all_eq_true]
  intro c hc
  exact decide_eq_true (dig_mem.mpr (TL.numL_digits n c hc))
theorem isNum_int {i : Int} (h : i.natAbs < 10 ^ 30) : isNumL (tl (Str.ofString (toString i))) = true := by
  have hne := TL.numL_ne i.natAbs
  have hlen := TL.numL_len (k := 30) (by decide) h
  have hpos : 1 ≤ (TL.numL i.natAbs).length := List.length_pos_iff.mpr hne
  rw [int_text]
  by_cases hi : i < 0
  · rw [if_pos hi]
    have e : numBody (45 :: TL.numL i.natAbs) = TL.numL i.natAbs := rfl
    rw [isNumL, e, num_all, decide_eq_true hpos, decide_eq_true hlen, decide_eq_false (numL_head (by omega))]
    rfl
  · rw [if_neg hi]
    have hh : (TL.numL i.natAbs).head? ≠ some 45 := by
      intro e
      have : 45 ∈ TL.numL i.natAbs := List.mem_of_mem_head? (by rw [e]; rfl)
      have := TL.numL_digits _ _ this
      omega
    have e : numBody (TL.numL i.natAbs) = TL.numL i.natAbs := if_neg hh
    rw [isNumL, e, num_all, decide_eq_true hpos, decide_eq_true hlen]
    by_cases h0 : i.natAbs = 0
    · rw [h0, TL.numL_lt (by decide)]; rfl
    · rw [decide_eq_false (numL_head (by omega))]; rfl

/-! ### constants -/
def Cst : V → Prop
  | .non => True
  | .int i => i.natAbs < 10 ^ 30
  | .str z => Word 8 z
  | _ => False
def cstS : V → Str
  | .non => "none"
  | .int i => Str.ofString (toString i)
  | .str z => (⟨#[34]⟩ : Str) ++ z ++ (⟨#[34]⟩ : Str)
  | _ => ""
def cstL (v : V) : List Nat := tl (cstS v)
theorem word_L {m : Nat} {z : Str} (h : Word m z) : isWordL (tl z) m = true := by
  unfold isWordL
  rw [decide_eq_true (show (tl z).length ≤ m by rw [tl_length]; exact h.1), Bool.true_and, List.all_eq_true]
  exact fun c hc => decide_eq_true (small_mem.mpr (h.2 c hc))
theorem cst_str (z : Str) : cstL (.str z) = 34 :: (tl z ++ [34]) := by
  show tl ((⟨#[34]⟩ : Str) ++ z ++ (⟨#[34]⟩ : Str)) = _
  rw [tl_app, tl_app]
  rfl
theorem cst_none : cstL .non = noneL := by decide +kernel
/-- the signs of constants -/
def good (c : Nat) : Prop := (97 ≤ c ∧ c ≤ 122) ∨ (48 ≤ c ∧ c ≤ 57) ∨ c = 45 ∨ c = 34
theorem const_good {t : List Nat} (h : isConstL t = true) : ∀ c ∈ t, good c := by
  intro c hc
  unfold isConstL at h
  split at h
  · rename_i hq
    obtain ⟨h2, h3, h4⟩ := hq
    match t, h2, h3, h4, h, hc with
    | a :: r, h2, h3, h4, h, hc =>
      have ha : a = 34 := by simpa using h3
      rcases List.mem_cons.mp hc with rfl | hc
      · exact .inr (.inr (.inr ha))
      · have hr : r ≠ [] := by rintro rfl; simp at h2
        have hl : r.getLast? = some 34 := by rw [List.getLast?_cons_of_ne_nil hr] at h4; exact h4
        have hl2 : r.getLast hr = 34 := by
          rw [List.getLast?_eq_some_getLast hr] at hl
          exact Option.some.inj hl
        rw [← List.dropLast_concat_getLast hr, hl2] at hc
        rcases List.mem_append.mp hc with hc | hc
        · unfold isWordL at h
          rw [Bool.and_eq_true, List.all_eq_true] at h
          exact .inl (small_mem.mp (of_decide_eq_true (h.2 c hc)))
        · exact .inr (.inr (.inr (List.mem_singleton.mp hc)))
  · rw [Bool.or_eq_true] at h
    rcases h with h | h
    · have : t = noneL := of_decide_eq_true h
      rw [this] at hc
      simp [noneL] at hc
      unfold good
      omega
    · unfold isNumL at h
      rw [Bool.and_eq_true, Bool.and_eq_true, Bool.and_eq_true] at h
      have h2 := h.2.1
      rw [List.all_eq_true] at h2
      unfold numBody at h2
      split at h2
      · rename_i h45
        match t, h45, h2, hc with
        | a :: r, h45, h2, hc =>
          have ha : a = 45 := by simpa using h45
          rcases List.mem_cons.mp hc with rfl | hc
          · exact .inr (.inr (.inl ha))
          · exact .inr (.inl (dig_mem.mp (of_decide_eq_true (h2 c hc))))
      · exact .inr (.inl (dig_mem.mp (of_decide_eq_true (h2 c hc))))
theorem const_bad {t : List Nat} {c : Nat} (hc : c ∈ t) (h : ¬ good c) : isConstL t = false := by
  cases e : isConstL t with
  | false => rfl
  | true => exact absurd (const_good e c hc) h
theorem const_nil : isConstL [] = false := by decide
theorem cst_const {v : V} (h : Cst v) : isConstL (cstL v) = true := by
  cases v with
  | non => rw [cst_none]; decide
  | int i =>
    have h : i.natAbs < 10 ^ 30 := h
    have hn := isNum_int h
    have e : cstL (.int i) = tl (Str.ofString (toString i)) := rfl
    rw [e]
    unfold isConstL
    rw [if_neg, hn, Bool.or_true]
    rintro ⟨_, h3, _⟩
    rw [int_text] at h3
    split at h3
    · have : 45 = 34 := Option.some.inj h3
      omega
    · have : 34 ∈ TL.numL i.natAbs := List.mem_of_mem_head? (by rw [h3]; rfl)
      have := TL.numL_digits _ _ this
      omega
  | str z =>
    have h : Word 8 z := h
    rw [cst_str]
    unfold isConstL
    rw [if_pos ⟨by simp, rfl, by rw [show (34 :: (tl z ++ [34]) : List Nat) = (34 :: tl z) ++ [34] from rfl]; exact List.getLast?_concat ..⟩]
    show isWordL (tl z ++ [34]).dropLast 8 = true
    rw [List.dropLast_concat]
    exact word_L h
  | _ => exact h.elim
theorem const_ne {t : List Nat} (h : isConstL t = true) : t ≠ [] := by
  rintro rfl
  rw [const_nil] at h
  cases h
theorem cst_len {v : V} (h : Cst v) : (cstL v).length ≤ 40 := by
  cases v with
  | non => rw [cst_none]; decide
  | int i =>
    have h : i.natAbs < 10 ^ 30 := h
    have hlen := TL.numL_len (k := 30) (by decide) h
    show (tl (Str.ofString (toString i))).length ≤ 40
    rw [int_text]
    split
    · rw [List.length_cons]; omega
    · omega
  | str z =>
    have h : Word 8 z := h
    have := h.1
    rw [cst_str, List.length_cons, List.length_append, tl_length]
    show z.length + 1 + 1 ≤ 40
    omega
  | _ => exact h.elim

/-! ### cutting at the commas -/
abbrev sep : List Nat := [44, 32]
/-- p, then c, which does not begin a comma and a blank: the first word holds c -/
theorem spl_first {p q : List Nat} {c : Nat} (hp : 44 ∉ p) (hc : TL.pre sep (c :: q) = false) : ∀ acc : List Nat, ∃ w ∈ TL.spl sep 0 acc (p ++ c :: q), c ∈ w := by
  induction p with
  | nil =>
    intro acc
    show ∃ w ∈ TL.spl sep 0 acc (c :: q), c ∈ w
    rw [TL.spl_miss hc]
    have key : ∀ (l acc : List Nat), c ∈ acc → ∃ w ∈ TL.spl sep 0 acc l, c ∈ w := by
      intro l
      induction l with
      | nil => intro acc h; exact ⟨acc, by rw [TL.spl_nil]; exact List.mem_singleton.mpr rfl, h⟩
      | cons d r ih =>
        intro acc h
        by_cases hd : TL.pre sep (d :: r) = true
        · rw [TL.spl_hit hd]
          exact ⟨acc, List.mem_cons_self .., h⟩
        · rw [TL.spl_miss (by simpa using hd)]
          exact ih _ (List.mem_append_left _ h)
    exact key q _ (List.mem_append_right _ (List.mem_singleton.mpr rfl))
  | cons d r ih =>
    intro acc
    show ∃ w ∈ TL.spl sep 0 acc (d :: (r ++ c :: q)), c ∈ w
    have hd : TL.pre sep (d :: (r ++ c :: q)) = false := TL.pre_of_head _ _ fun e => hp (by rw [← e]; exact List.mem_cons_self ..)
    rw [TL.spl_miss hd]
    exact ih (fun h => hp (List.mem_cons_of_mem _ h)) _
/-- the last word is empty or ends as the text does -/
theorem spl_end (q : List Nat) (c : Nat) : ∃ w ∈ TL.spl sep 0 [] (q ++ [c]), w = [] ∨ c ∈ w := by
  have key : ∀ (q acc : List Nat), (∃ w ∈ TL.spl sep 0 acc (q ++ [c]), w = [] ∨ c ∈ w) ∧ (∃ w ∈ TL.spl sep 1 [] (q ++ [c]), w = [] ∨ c ∈ w) := by
    intro q
    induction q with
    | nil =>
      intro acc
      constructor
      · show ∃ w ∈ TL.spl sep 0 acc [c], w = [] ∨ c ∈ w
        rw [TL.spl_miss (by unfold TL.pre; simp), TL.spl_nil]
        exact ⟨_, List.mem_singleton.mpr rfl, .inr (List.mem_append_right _ (List.mem_singleton.mpr rfl))⟩
      · show ∃ w ∈ TL.spl sep 0 [] [], w = [] ∨ c ∈ w
        rw [TL.spl_nil]
        exact ⟨_, List.mem_singleton.mpr rfl, .inl rfl⟩
    | cons d r ih =>
      intro acc
      constructor
      · show ∃ w ∈ TL.spl sep 0 acc (d :: (r ++ [c])), w = [] ∨ c ∈ w
        by_cases hd : TL.pre sep (d :: (r ++ [c])) = true
        · rw [TL.spl_hit hd]
          obtain ⟨w, h1, h2⟩ := (ih []).2
          exact ⟨w, List.mem_cons_of_mem _ h1, h2⟩
        · rw [TL.spl_miss (by simpa using hd)]
          exact (ih _).1
      · exact (ih []).1
  exact (key q []).1
theorem spl_sep (p q : List Nat) (h : 44 ∉ p) : TL.spl sep 0 [] (p ++ 44 :: 32 :: q) = p :: TL.spl sep 0 [] q := TL.spl_part1 (S := [32]) (acc := []) h

/-! ### calls -/
theorem words_ne {r : List Nat} (h : r ≠ []) : wordsL r = TL.spl sep 0 [] r := if_neg h
theorem call_at {name r : List Nat} (h : 40 ∉ name) : isCallL (name ++ 40 :: (r ++ [41])) = (isNameL name && (decide ((wordsL r).length ≤ 3) && (wordsL r).all isConstL)) := by
  have e1 : (name ++ 40 :: (r ++ [41])).getLast? = some 41 := by
    rw [show name ++ 40 :: (r ++ [41]) = (name ++ 40 :: r) ++ [41] by simp]
    exact List.getLast?_concat ..
  have e2 : (name ++ 40 :: (r ++ [41])).dropLast = name ++ ([40] ++ r) := by
    rw [show name ++ 40 :: (r ++ [41]) = (name ++ 40 :: r) ++ [41] by simp, List.dropLast_concat]
    rfl
  have e3 : TL.par [40] [] (name ++ ([40] ++ r)) = some (name, r) := TL.par_part1 (S := []) (acc := []) h
  unfold isCallL
  rw [e1, e2, e3]
  rfl
theorem call_bad {name r w : List Nat} (h : 40 ∉ name) (hr : r ≠ []) (hw : w ∈ TL.spl sep 0 [] r) (hb : isConstL w = false) : isCallL (name ++ 40 :: (r ++ [41])) = false := by
  rw [call_at h, words_ne hr]
  have : (TL.spl sep 0 [] r).all isConstL = false := by
    cases e : (TL.spl sep 0 [] r).all isConstL with
    | false => rfl
    | true =>
      rw [List.all_eq_true] at e
      rw [e w hw] at hb
      cases hb
  rw [this, Bool.and_false, Bool.and_false]
theorem call_end {t : List Nat} (h : t.getLast? ≠ some 41) : isCallL t = false := by
  unfold isCallL
  rw [decide_eq_false h, Bool.false_and]
theorem call_none {t : List Nat} (h : 40 ∉ t) : isCallL t = false := by
  unfold isCallL
  rw [TL.par_none1 (s := 40) (S := []) (acc := []) (p := t.dropLast) fun hm => h ((List.dropLast_sublist _).subset hm), Bool.and_false]
/-- a joined text is cut into its parts -/
theorem spl_parts : ∀ {parts : List (List Nat)}, parts ≠ [] → (∀ p ∈ parts, SX.free sep p = true) → TL.spl sep 0 [] (TL.joinL sep parts) = parts
  | [], h, _ => absurd rfl h
  | [p], _, hp => by
    show TL.spl sep 0 [] p = [p]
    have hf := hp p (List.mem_singleton.mpr rfl)
    have := TL.spl_last (S := sep) (p := p) (acc := []) fun i hi => ?_
    · simpa using this
    · have z := SX.free_at (sep := sep) hf [] i hi
      cases e : TL.pre sep (p.drop i) with
      | false => rfl
      | true =>
        have e2 : (p ++ (sep ++ [])).drop i = p.drop i ++ sep := by
          rw [List.append_nil, List.drop_append_of_le_length (by omega)]
        rw [e2] at z
        unfold TL.pre at e z
        have e3 := eq_of_beq e
        have hl : sep.length ≤ (p.drop i).length := by
          have := congrArg List.length e3
          rw [List.length_take] at this
          omega
        rw [List.take_append_of_le_length hl, e3] at z
        simp at z
  | p :: q :: r, _, hp => by
    show TL.spl sep 0 [] (p ++ (sep ++ TL.joinL sep (q :: r))) = p :: q :: r
    rw [SX.spl_free _ (by simp) (hp p (List.mem_cons_self ..)), spl_parts (by simp) fun x hx => hp x (List.mem_cons_of_mem _ hx)]
theorem join_ne : ∀ {parts : List (List Nat)}, parts ≠ [] → (∀ p ∈ parts, p ≠ []) → TL.joinL sep parts ≠ []
  | [], h, _ => absurd rfl h
  | [p], _, hp => hp p (List.mem_singleton.mpr rfl)
  | p :: q :: r, _, hp => by
    show p ++ (sep ++ TL.joinL sep (q :: r)) ≠ []
    simp
theorem words_join {parts : List (List Nat)} (h1 : ∀ p ∈ parts, SX.free sep p = true) (h2 : ∀ p ∈ parts, p ≠ []) : wordsL (TL.joinL sep parts) = parts := by
  cases parts with
  | nil => rfl
  | cons p r => rw [words_ne (join_ne (by simp) h2), spl_parts (by simp) h1]
/-- THE LAW of calls: parts between commas -/
theorem call_main {name : List Nat} {parts : List (List Nat)} (h : 40 ∉ name) (h1 : ∀ p ∈ parts, SX.free sep p = true) (h2 : ∀ p ∈ parts, p ≠ []) :
    isCallL (name ++ 40 :: (TL.joinL sep parts ++ [41])) = (isNameL name && (decide (parts.length ≤ 3) && parts.all isConstL)) := by
  rw [call_at h, words_join h1 h2]
theorem name_small {t : List Nat} (h : isNameL t = true) : t ≠ [] ∧ t.length ≤ 12 ∧ ∀ c ∈ t, 97 ≤ c ∧ c ≤ 122 := by
  unfold isNameL isWordL at h
  simp only [Bool.and_eq_true, decide_eq_true_eq, List.all_eq_true] at h
  exact ⟨h.2.1, h.1.1, fun c hc => small_mem.mp (h.1.2 c hc)⟩
theorem cst_free {v : V} (h : Cst v) : SX.free sep (cstL v) = true := SX.free_head fun hm => by
  have := const_good (cst_const h) 44 hm
  unfold good at this
  omega
/-! ### parts of calls that may be wrong -/
structure PartB (t : List Nat) (ok : Bool) : Prop where
  ne : t ≠ []
  o : 40 ∉ t
  s : 41 ∉ t
  free : SX.free sep t = true
  is : isConstL t = ok
  len : t.length ≤ 6000
  low : ∀ c ∈ t, c < 1114112
def partB (t : List Nat) (ok : Bool) : Bool := decide (t ≠ []) && (!decide (40 ∈ t) && (!decide (41 ∈ t) && (SX.free sep t && (decide (isConstL t = ok) && (decide (t.length ≤ 6000) && t.all fun c => decide (c < 1114112))))))
theorem partB_ok {t : List Nat} {ok : Bool} (h : partB t ok = true) : PartB t ok := by
  unfold partB at h
  simp only [Bool.and_eq_true, Bool.not_eq_true', decide_eq_true_eq, decide_eq_false_iff_not, List.all_eq_true] at h
  obtain ⟨h1, h2, h3, h4, h5, h6, h7⟩ := h
  exact ⟨h1, h2, h3, h4, h5, h6, h7⟩
theorem partB_cst {v : V} (h : Cst v) : PartB (cstL v) true := by
  have hg := const_good (cst_const h)
  have key : ∀ c, c ∈ cstL v → good c := fun c hc => hg c hc
  refine ⟨const_ne (cst_const h), fun hm => ?_, fun hm => ?_, cst_free h, cst_const h, Nat.le_trans (cst_len h) (by decide), fun c hc => ?_⟩
  · have := key _ hm; unfold good at this; omega
  · have := key _ hm; unfold good at this; omega
  · have := key _ hc; unfold good at this; omega
theorem mul_tl {c : Nat} {n : Int} (h : 1 < n) : tl (Txt.mul ⟨#[c]⟩ n) = List.replicate n.toNat c := by
  have h1 : ¬ n < 1 := by omega
  have h2 : ¬ ((n == 1 || (⟨#[c]⟩ : Str).length == 0) = true) := by
    have : ¬ n = 1 := by omega
    simp [this, Str.length]
  unfold Txt.mul
  rw [if_neg h1, if_neg h2]
  have key : ∀ (k : Nat) (acc : Array Nat), ((List.replicate k (⟨#[c]⟩ : Str).cps).foldl (· ++ ·) acc).toList = acc.toList ++ List.replicate k c := by
    intro k
    induction k with
    | zero => intro acc; simp
    | succ k ih => intro acc; rw [List.replicate_succ, List.foldl_cons, ih]; simp [List.replicate_succ]
  show ((List.replicate n.toNat (⟨#[c]⟩ : Str).cps).foldl (· ++ ·) #[]).toList = _
  rw [key]
  rfl
theorem partB_long {c : Nat} {n : Nat} (pre : List Nat) (hp : pre = [] ∨ pre = [45]) (hc : 48 ≤ c ∧ c ≤ 57) (hn : 30 < n) (h2 : n ≤ 5000) : PartB (pre ++ List.replicate n c) false := by
  have hm : ∀ d ∈ pre ++ List.replicate n c, d = 45 ∨ d = c := by
    intro d hd
    rcases List.mem_append.mp hd with hd | hd
    · rcases hp with rfl | rfl
      · cases hd
      · exact .inl (List.mem_singleton.mp hd)
    · exact .inr (List.eq_of_mem_replicate hd)
  have hb : numBody (pre ++ List.replicate n c) = List.replicate n c := by
    rcases hp with rfl | rfl
    · unfold numBody
      rw [if_neg]
      · rfl
      · intro e
        have := hm 45 (List.mem_of_mem_head? (by rw [e]; rfl))
        have e2 : c = 45 := by
          have e' : (List.replicate n c).head? = some 45 := e
          rw [List.head?_replicate, if_neg (by omega)] at e'
          exact Option.some.inj e'
        omega
    · rfl
  refine ⟨fun e => ?_, fun h => ?_, fun h => ?_, SX.free_head fun h => ?_, ?_, ?_, fun d hd => ?_⟩
  · have := congrArg List.length e
    rw [List.length_append, List.length_replicate] at this
    simp at this
    omega
  · have := hm _ h; omega
  · have := hm _ h; omega
  · have := hm _ h; omega
  · unfold isConstL
    rw [if_neg]
    · unfold isNumL
      rw [hb, List.length_replicate, decide_eq_false (show ¬ n ≤ 30 by omega), Bool.and_false, Bool.false_and, Bool.or_false]
      refine decide_eq_false fun e => ?_
      have := hm 110 (by rw [e]; decide)
      omega
    · rintro ⟨_, h, _⟩
      have := hm 34 (List.mem_of_mem_head? (by rw [h]; rfl))
      omega
  · rw [List.length_append, List.length_replicate]
    rcases hp with rfl | rfl
    · simp; omega
    · simp; omega
  · have := hm _ hd; omega

/-! ### spoilt calls -/
theorem join_mem0 {c : Nat} : ∀ {parts : List (List Nat)}, c ∈ TL.joinL sep parts → c = 44 ∨ c = 32 ∨ ∃ p ∈ parts, c ∈ p
  | [], h => by cases h
  | [p], h => .inr (.inr ⟨p, List.mem_singleton.mpr rfl, h⟩)
  | p :: q :: r, h => by
    have h : c ∈ p ++ (sep ++ TL.joinL sep (q :: r)) := h
    rcases List.mem_append.mp h with h | h
    · exact .inr (.inr ⟨p, List.mem_cons_self .., h⟩)
    · rcases List.mem_append.mp h with h | h
      · simp at h
        omega
      · rcases join_mem0 h with h | h | ⟨x, hx, h⟩
        · exact .inl h
        · exact .inr (.inl h)
        · exact .inr (.inr ⟨x, List.mem_cons_of_mem _ hx, h⟩)

theorem join_last {c : Nat} (h41 : c = 41) : ∀ {parts : List (List Nat)}, (∀ p ∈ parts, c ∉ p) → c ∉ TL.joinL sep parts := by
  intro parts h hm
  rcases join_mem0 hm with e | e | ⟨p, hp, e⟩
  · omega
  · omega
  · exact h p hp e
theorem name_no {t : List Nat} (h : isNameL t = true) {c : Nat} (hc : c < 97) : c ∉ t := fun hm => by
  have := (name_small h).2.2 c hm
  omega
theorem bad_first {name q : List Nat} {c : Nat} (h : 40 ∉ name) (h44 : c ≠ 44) (hb : ¬ good c) : isCallL (name ++ 40 :: ((c :: q) ++ [41])) = false := by
  obtain ⟨w, hw, hc⟩ := spl_first (p := []) (q := q) (c := c) (by simp) (TL.pre_of_head _ _ h44) []
  exact call_bad h (by simp) hw (const_bad hc hb)
theorem bad_last {name q : List Nat} {c : Nat} (h : 40 ∉ name) (hb : ¬ good c) : isCallL (name ++ 40 :: ((q ++ [c]) ++ [41])) = false := by
  obtain ⟨w, hw, hc⟩ := spl_end q c
  refine call_bad h (by simp) hw ?_
  rcases hc with rfl | hc
  · exact const_nil
  · exact const_bad hc hb
theorem bad_at {name p q : List Nat} {c : Nat} (h : 40 ∉ name) (hp : 44 ∉ p) (hc : TL.pre sep (c :: q) = false) (hb : ¬ good c) : isCallL (name ++ 40 :: ((p ++ c :: q) ++ [41])) = false := by
  obtain ⟨w, hw, hcw⟩ := spl_first (p := p) (q := q) (c := c) hp hc []
  exact call_bad h (by simp) hw (const_bad hcw hb)
theorem bad_next {name p q w : List Nat} (h : 40 ∉ name) (hp : 44 ∉ p) (hw : w ∈ TL.spl sep 0 [] q) (hb : isConstL w = false) : isCallL (name ++ 40 :: ((p ++ 44 :: 32 :: q) ++ [41])) = false :=
  call_bad h (by simp) (by rw [spl_sep p q hp]; exact List.mem_cons_of_mem _ hw) hb
theorem good_not {c : Nat} (h : good c) : c ≠ 44 ∧ c ≠ 32 ∧ c ≠ 40 ∧ c ≠ 41 ∧ c ≠ 59 := by
  unfold good at h
  omega
/-- two right constants and something else than a comma and a blank between them -/
theorem bad_comma {name p1 p2 cm rest : List Nat} (h : 40 ∉ name) (h1 : isConstL p1 = true) (h2 : isConstL p2 = true)
    (hc : cm = [44] ∨ cm = [32, 44] ∨ cm = [32, 44, 32] ∨ cm = [44, 32, 32] ∨ cm = [32] ∨ cm = [59] ∨ cm = [44, 32, 44, 32]) : isCallL (name ++ 40 :: ((p1 ++ (cm ++ (p2 ++ rest))) ++ [41])) = false := by
  have n44 : 44 ∉ p1 := fun hm => (good_not (const_good h1 _ hm)).1 rfl
  obtain ⟨d, r, hd⟩ : ∃ d r, p2 = d :: r := by
    cases e : p2 with
    | nil => exact absurd e (const_ne h2)
    | cons d r => exact ⟨d, r, rfl⟩
  have gd := good_not (const_good h2 d (by rw [hd]; exact List.mem_cons_self ..))
  have nb : ∀ c, c = 44 ∨ c = 32 ∨ c = 59 → ¬ good c := by
    intro c hc hg
    have := good_not hg
    omega
  rcases hc with rfl | rfl | rfl | rfl | rfl | rfl | rfl
  · refine bad_at (c := 44) h n44 ?_ (nb _ (.inl rfl))
    rw [hd]
    unfold TL.pre
    show (([44, d] : List Nat) == [44, 32]) = false
    rw [beq_eq_false_iff_ne]
    intro e
    have : d = 32 := by simpa using e
    omega
  · exact bad_at (c := 32) (q := 44 :: (p2 ++ rest)) h n44 (TL.pre_of_head _ _ (by decide)) (nb _ (.inr (.inl rfl)))
  · exact bad_at (c := 32) (q := 44 :: 32 :: (p2 ++ rest)) h n44 (TL.pre_of_head _ _ (by decide)) (nb _ (.inr (.inl rfl)))
  · obtain ⟨w, hw, hcw⟩ := spl_first (p := []) (q := p2 ++ rest) (c := 32) (by simp) (TL.pre_of_head _ _ (by decide)) []
    exact bad_next (q := 32 :: (p2 ++ rest)) h n44 hw (const_bad hcw (nb _ (.inr (.inl rfl))))
  · exact bad_at (c := 32) (q := p2 ++ rest) h n44 (TL.pre_of_head _ _ (by decide)) (nb _ (.inr (.inl rfl)))
  · exact bad_at (c := 59) (q := p2 ++ rest) h n44 (TL.pre_of_head _ _ (by decide)) (nb _ (.inr (.inr rfl)))
  · exact bad_next (q := 44 :: 32 :: (p2 ++ rest)) (w := []) h n44 (by rw [show (44 :: 32 :: (p2 ++ rest) : List Nat) = [] ++ 44 :: 32 :: (p2 ++ rest) from rfl, spl_sep [] _ (by simp)]; exact List.mem_cons_self ..) const_nil

/-! ### more of the layer -/
section
variable {X : Cx} {k j : Nat} {x : Str} {sp : Sp} {p pos : Pos}
theorem pe_cA0 (c : Cal X.prog X.w X.K X.mg X.base k x sp) (hr : Room j X.A) (hk : k ≤ j) (hg : Gl X x) (hdb : (x == ("__debug__" : Str)) = false := by decide) :
    PE X (.Call (.Name x p) [] [] pos) (tCall sp [] L2.E0 tNil) := by
  obtain ⟨f, fd, ps, F, hm, kp, b⟩ := c.ex
  exact pe_call0 F (hr.mono hk) hg hm kp b .nil L2.pass0 hdb
def rStrA : List V → Hp → VK → Prop := fun xs H Q => ∃ i, xs = [.int i] ∧ i.natAbs.log2 < 1920 ∧ Q (.str (Str.ofString (toString i))) H
theorem call_strA : CallR X (.type "str") rStrA := call_str_int
end
theorem r_str {H : Hp} {Q : VK} {i : Int} (h : i.natAbs < 10 ^ 100) (q : Q (.str (Str.ofString (toString i))) H) : rStrA [.int i] H Q := ⟨i, rfl, Nat.lt_of_lt_of_le (PySem.Flt.log2_lt_of (k := 400) (by decide) (Nat.lt_of_lt_of_le h (by decide))) (by decide), q⟩
/-- a call as a text, and what it is made of -/
def CallOk (z : Str) : Prop := ∃ (name : List Nat) (vs : List V), isNameL name = true ∧ (∀ v ∈ vs, Cst v) ∧ vs.length ≤ 3 ∧ tl z = name ++ 40 :: (TL.joinL sep (vs.map cstL) ++ [41])
theorem CallOk.is {z : Str} (h : CallOk z) : isCallL (tl z) = true := by
  obtain ⟨name, vs, h1, h2, h3, h4⟩ := h
  rw [h4, call_main, h1, List.length_map, decide_eq_true h3, Bool.true_and, Bool.true_and, List.all_map, List.all_eq_true]
  · exact fun v hv => cst_const (h2 v hv)
  · intro hm
    have := (name_small h1).2.2 40 hm
    omega
  · intro p hp
    obtain ⟨v, hv, rfl⟩ := List.mem_map.mp hp
    exact cst_free (h2 v hv)
  · intro p hp
    obtain ⟨v, hv, rfl⟩ := List.mem_map.mp hp
    exact const_ne (cst_const (h2 v hv))
theorem join_mem {c : Nat} {parts : List (List Nat)} (h : c ∈ TL.joinL sep parts) : c = 44 ∨ c = 32 ∨ ∃ p ∈ parts, c ∈ p := join_mem0 h
theorem join_len {m : Nat} : ∀ {parts : List (List Nat)}, (∀ p ∈ parts, p.length ≤ m) → (TL.joinL sep parts).length ≤ parts.length * (m + 2)
  | [], _ => by simp [TL.joinL]
  | [p], h => by
    have := h p (List.mem_singleton.mpr rfl)
    show p.length ≤ 1 * (m + 2)
    omega
  | p :: q :: r, h => by
    have h1 := h p (List.mem_cons_self ..)
    have h2 := join_len (m := m) (parts := q :: r) fun x hx => h x (List.mem_cons_of_mem _ hx)
    show (p ++ (sep ++ TL.joinL sep (q :: r))).length ≤ (r.length + 1 + 1) * (m + 2)
    rw [List.length_append, List.length_append]
    rw [List.length_cons] at h2
    have : (r.length + 1 + 1) * (m + 2) = (r.length + 1) * (m + 2) + (m + 2) := Nat.succ_mul _ _
    show p.length + (2 + _) ≤ _
    omega
theorem CallOk.fit {z : Str} (h : CallOk z) : fit (.str z) = true := by
  obtain ⟨name, vs, h1, h2, h3, h4⟩ := h
  obtain ⟨n1, n2, n3⟩ := name_small h1
  have hj := join_len (m := 40) (parts := vs.map cstL) fun p hp => by
    obtain ⟨v, hv, rfl⟩ := List.mem_map.mp hp
    exact cst_len (h2 v hv)
  rw [List.length_map] at hj
  refine fit_of ?_ ?_
  · rw [h4, List.length_append, List.length_cons, List.length_append]
    show name.length + (_ + 1 + 1) ≤ _
    omega
  · intro c hc
    rw [h4] at hc
    rcases List.mem_append.mp hc with hc | hc
    · have := n3 c hc; omega
    · rcases List.mem_cons.mp hc with hc | hc
      · omega
      · rcases List.mem_append.mp hc with hc | hc
        · rcases join_mem hc with h | h | ⟨p, hp, h⟩
          · omega
          · omega
          · obtain ⟨v, hv, rfl⟩ := List.mem_map.mp hp
            have := const_good (cst_const (h2 v hv)) c h
            unfold good at this
            omega
        · have := List.mem_singleton.mp hc; omega
theorem cst_fit {v : V} (h : Cst v) : fit (.str (cstS v)) = true := by
  refine fit_of (Nat.le_trans (cst_len h) (by decide)) fun c hc => ?_
  have := const_good (cst_const h) c hc
  unfold good at this
  omega
end WP

set_option Elab.async false
set_option linter.all false
set_option maxRecDepth 100000
set_option maxHeartbeats 4000000
namespace WP
open PySem PySem.Spec PyProof.Rows L2
/-! ### calls with keywords: the values are written in the parameters' order -/
structure CalK (P : Program) (w : World) (K : PySem.W.Frag) (mg : Str → Option Value) (base : Heap) (k : Nat) (x : Str) (sp : Sp) (n : Nat) (ks : List Str) : Prop where
  ex : ∃ (f : Addr) (fd : FuncData) (ps : List Str), FnOk P w K mg base L2.CX0 k f fd ps sp ∧ mg x = some (.ref f) ∧ PySem.W.keepIn K (.ref f) = true ∧ KBn K fd ps n ks (fun us ws => us ++ ws) (fun vs zs => vs ++ zs)
def tCallW (n m : Nat) (sp : Sp) (t tk : TA) : TE := fun σ H Q => t σ H fun vs H1 => tk σ H1 fun zs H2 => vs.length = n ∧ zs.length = m ∧ sp (vs ++ zs) H2 Q L2.E0
theorem r_callW {n m : Nat} {sp : Sp} {t tk : TA} {σ : L2.St} {H : Hp} {Q : VK} (q : t σ H fun vs H1 => tk σ H1 fun zs H2 => vs.length = n ∧ zs.length = m ∧ sp (vs ++ zs) H2 Q L2.E0) : tCallW n m sp t tk σ H Q := q
section
variable {X : Cx} {k j n : Nat} {x : Str} {sp : Sp} {ks : List Str} {p pos : Pos} {e : Expr} {es : List Expr} {kws : List Keyword} {t tk : TA}
theorem pe_cK (c : CalK X.prog X.w X.K X.mg X.base k x sp n ks) (hr : Room j X.A) (hk : k ≤ j) (hg : Gl X x) (ha : PA X (e :: es) t) (hkw : PK X kws tk)
    (hall : (backToKw pos (keywordEach kws X.env)).all (·.1.isSome) = true := by rfl) (hks : (backToKw pos (keywordEach kws X.env)).filterMap (·.1) = ks := by rfl)
    (hdb : (x == ("__debug__" : Str)) = false := by decide) (he : starEach (e :: es) X.env = (false, eval e X.env) :: starEach es X.env := by rfl)
    (hpl : ((backTo pos (starEach (e :: es) X.env)).any (·.1) || (backToKw pos (keywordEach kws X.env)).any (·.1.isNone)) = false := by rfl) :
    PE X (.Call (.Name x p) (e :: es) kws pos) (tCallW n ks.length sp t tk) := by
  obtain ⟨f, fd, ps, F, hm, kp, b⟩ := c.ex
  exact pe_callN F (hr.mono hk) hg hm kp b L2.pass0 ha hkw hall hks hdb he hpl
theorem pe_cK0 (c : CalK X.prog X.w X.K X.mg X.base k x sp 0 ks) (hr : Room j X.A) (hk : k ≤ j) (hg : Gl X x) (hkw : PK X kws tk)
    (hall : (backToKw pos (keywordEach kws X.env)).all (·.1.isSome) = true := by rfl) (hks : (backToKw pos (keywordEach kws X.env)).filterMap (·.1) = ks := by rfl)
    (hdb : (x == ("__debug__" : Str)) = false := by decide)
    (hpl : ((backTo pos (starEach [] X.env)).any (·.1) || (backToKw pos (keywordEach kws X.env)).any (·.1.isNone)) = false := by rfl) :
    PE X (.Call (.Name x p) [] kws pos) (tCallW 0 ks.length sp tNil tk) := by
  obtain ⟨f, fd, ps, F, hm, kp, b⟩ := c.ex
  refine ⟨fun pins s σ H Q I h => ?_⟩
  refine wpAny_Call_Name_kw (ld_glob I hg hm ?_ hdb)
  refine PySem.W.callWith_KW0 (h₀ := X.base) I.ok.mod.kin kp hall (thn (hkw.run pos pins s σ H _ I h) fun ws s2 ⟨zs, H2, I2, rz, l1, l2, q2⟩ => ⟨I2.kIn, ?_⟩) hpl
  rw [hks]
  exact run_fnN F (hr.mono hk) b L2.pass0 I2 .nil rz l1 l2 q2
end
section
variable {P : Program} {w : World} {K : PySem.W.Frag} {mg : Str → Option Value} {base : Heap}
theorem Vals.app {vs zs : List V} {us ws : List Value} (h1 : Vals vs us) (h2 : Vals zs ws) : Vals (vs ++ zs) (us ++ ws) := h1.append h2
/-- all parameters are written, by place and by name -/
theorem calK_of {x : Str} {st : Stmt} {N ps : List Str} {k : Nat} {sp : Sp} {kws : List (Str × V)} (F : AtD K mg x st [] kws) (S : FnScope N ps (defScope st)) (len : ∀ vs H Q E, sp vs H Q E → vs.length = ps.length)
    (hbody : ∀ (f : Addr) (cdv : Value) (A : Around) (outer : List Env) (s : Shared) (H : Hp) (vs : List V) (Q : VK) (E : XK), Room k (A.deeper (envOfC x (defScope st) s.heap.objs.size f cdv)) → sp vs H Q E →
      ∃ t, PSs (cxOf L2.CX0 P w K mg base N x (defScope st) f cdv A outer s H E).nox (defBody st) t ∧ t { nx := fun _ H' => Q .non H', rt := Q } (start N vs) H) (n : Nat) (ks : List Str)
    (hb : ∀ (kV doc pm : Value) (an : Option Addr) (cdv ct : Value) (us ws : List Value), us.length = n → ws.length = ks.length →
      bindArgs (PySem.W.fnOf x x (defArgs st) (defBody st) (defScope st) .none kV doc pm an cdv ct) ⟨us, ks.zip ws⟩ = pure (ps.zip (us ++ ws))) : CalK P w K mg base (k + 1) x sp n ks := by
  obtain ⟨f, fd, F, m⟩ := F.ex
  refine ⟨f, fd, ps, F.ok S len fun cdv A outer s H vs Q E hr hsp => ?_, m, F.kp, ?_⟩
  · obtain ⟨t, h, q⟩ := hbody f cdv A outer s H vs Q E hr hsp
    exact ⟨t, h.nox, q⟩
  · obtain ⟨oc, od, dV, kV, doc, pm, an, cdv, ct, osl, rfl, lk, hcd, hD, hK⟩ := F.ex
    rcases hD with ⟨_, rfl⟩ | ⟨e, _⟩
    · exact ⟨fun s us ws _ h1 h2 => BindsTo.of_eq (hb kV doc pm an cdv ct us ws h1 h2), fun h1 h2 => Vals.app h1 h2⟩
    · exact absurd rfl e
/-- the keyword-only ones are left out -/
theorem calD0_of {x : Str} {st : Stmt} {N ps : List Str} {k : Nat} {sp : Sp} {kws : List (Str × V)} (F : AtD K mg x st [] kws) (S : FnScope N ps (defScope st)) (len : ∀ vs H Q E, sp vs H Q E → vs.length = ps.length)
    (hbody : ∀ (f : Addr) (cdv : Value) (A : Around) (outer : List Env) (s : Shared) (H : Hp) (vs : List V) (Q : VK) (E : XK), Room k (A.deeper (envOfC x (defScope st) s.heap.objs.size f cdv)) → sp vs H Q E →
      ∃ t, PSs (cxOf L2.CX0 P w K mg base N x (defScope st) f cdv A outer s H E).nox (defBody st) t ∧ t { nx := fun _ H' => Q .non H', rt := Q } (start N vs) H) (n : Nat) (hk : kws ≠ []) (hn : n + kws.length = ps.length)
    (hb : ∀ (D : Addr) (doc pm : Value) (an : Option Addr) (cdv ct : Value) (us ks : List Value), us.length = n → ks.length = kws.length →
      KwChain D ((kws.map (·.1)).zip ks) (bindArgs (PySem.W.fnOf x x (defArgs st) (defBody st) (defScope st) .none (.ref D) doc pm an cdv ct) ⟨us, []⟩) (ps.zip (us ++ ks))) : CalD P w K mg base (k + 1) x sp (kws.map (·.2)) := by
  obtain ⟨f, fd, F, m⟩ := F.ex
  obtain ⟨ds, hv, b⟩ := F.binds0 n hk hn hb
  refine ⟨f, fd, ps, ds, F.ok S len fun cdv A outer s H vs Q E hr hsp => ?_, m, F.kp, b, hv⟩
  obtain ⟨t, h, q⟩ := hbody f cdv A outer s H vs Q E hr hsp
  exact ⟨t, h.nox, q⟩
end
/-! ### paths -/
def isPathD (ag : Bool) : PyData → Bool
  | .tuple xs => !(decide (xs.length = 0) || (!ag && decide (1 < xs.length))) && xs.all isCallD
  | _ => false
end WP

set_option Elab.async false
set_option linter.all false
set_option maxRecDepth 100000
set_option maxHeartbeats 4000000
namespace WP
open PySem PySem.Spec PyProof.Rows L2
/-! ### super().__init__(text) in an own exception's __init__ -/
/-- what the written part says: the class C of the exception, D where the __init__ stands, f the __init__, c its code, cc its cell of __class__ -/
structure SupIn (P : Program) (K : PySem.W.Frag) (B i : String) (C D c cc : Addr) : Prop where
  code : ∃ ccl cdd vs ccs file tf, K.lookup c = some ⟨ccl, cdd, .fields vs, ccs⟩ ∧ vs[2]? = some (.str file tf) ∧ (P.main.file == file) = true
  cell : ∃ cl cld csl, K.lookup cc = some ⟨cl, cld, .cell (some (.ref D)), csl⟩
  cls : ∃ cd, PySem.W.clsIn K D = some cd
  msub : PySem.W.mroIn K C (.ref D) = some true
  sup : PySem.W.ks_superIn K C D "__init__" = some (some (.builtin i))
  subB : PySem.W.subIn K (.ref C) (.type B) = some true
  opq : PySem.W.nsIn K cStatics "thirdparty.any" = some none
  top : (P.main.scope.names.lookup ("super" : Str)).isSome = false
/-- the object of an own error whose fields are not laid yet -/
abbrev bare (C t1 : Addr) (d : Option Addr) : Obj := { cls := .ref C, dict := d, data := .fields #[.ref t1, .none, .none, .none, .bool false, .none] }
/-- a base's own __init__, bound to an own error and called: nothing but the error's arguments changes. Of heaps alone -/
theorem wrapper_runs {Bb nb ib : String} {tl : List Value} (F : ExcBaseFacts Bb nb ib tl) {prog : Program} {w : World} {A : Around} {E : Value → Shared → Prop} {s : Shared} {Q : Value → Shared → Prop} {u a C t1 : Addr} {us : List Value} {dv : Option Addr}
    {nm q : Str} {N : Addr} {bs bm : List Value} {hd : Bool} {sn : List Str} {sub : List Value} {ab : Bool} {col : Option Bool} {dd : Option Addr} {k0 k1 k2 k3 k5 : Option Value}
    (hC : s.heap.get? C = some (excClassObj nm q C N bs bm hd sn sub ab col dd k0 k1 k2 k3 k5 nb)) (ha : s.heap.get? a = some (bare C t1 dv)) (hu : s.heap.get? u = some (PySem.W.kxs_mw ib a)) (hl : us.length ≤ sizeLine)
    (done : ∀ h', (∀ b o, b ≠ a → s.heap.get? b = some o → h'.get? b = some o) → (∃ t2, h'.get? a = some (bare C t2 dv)) → Q .none { s with heap := h' }) : wpAny (model prog w) A (call (.ref u) us) Q E s := by
  obtain ⟨hp, g, d, tk, os⟩ := s
  have chk : ∀ (A : Around) (E : Value → Shared → Prop) (Q' : Unit → Shared → Prop), Q' () ⟨hp, g, d, tk, os⟩ → wpAny (model prog w) A (checkBoundCall ib ⟨.ref a :: us, []⟩) Q' E ⟨hp, g, d, tk, os⟩ :=
    fun A E Q' z => PySem.W.check_bound_init F.toExcCallFacts hC ha rfl z
  refine wpAny_call (codeAny_of_tree ?_)
  simp only [callAny]
  refine wpAny_bind (wpAny_load hu ?_)
  dsimp only [PySem.W.kxs_mw]
  refine PySem.W.KFB.if_so (by decide) (PySem.W.KFB.if_so (by decide) ?_)
  refine wpAny_bind (chk _ _ _ (wpAny_pure ⟨plainId_quiet F.init.plain _, codeAny_builtin F.initEntry ?_⟩))
  exact PySem.W.exc_init_tree ha hl fun h' keep hx _ => done h' keep ⟨_, hx⟩
/-- the same in a frame: the error stays as it was told -/
theorem wrapper_inv {Bb nb ib : String} {tl : List Value} (F : ExcBaseFacts Bb nb ib tl) {X : Cx} {pins : List (Addr × Obj)} {σ : L2.St} {H : Hp} {s : Shared} {E : Value → Shared → Prop} {a C u : Addr} {us : List Value} {Q : Value → Shared → Prop}
    (hC : ∃ nm q N bs bm hd sn sub ab col dd k0 k1 k2 k3 k5, X.K.lookup C = some (excClassObj nm q C N bs bm hd sn sub ab col dd k0 k1 k2 k3 k5 nb)) (I : Inv X pins σ H s) (ea : H a = some (exo a C none)) (hu : s.heap.get? u = some (PySem.W.kxs_mw ib a)) (hl : us.length ≤ sizeLine)
    (h : ∀ s', Inv X pins σ H s' → Q .none s') : wpAny (model X.prog X.w) X.A (call (.ref u) us) Q E s := by
  obtain ⟨nm, q, N, bs, bm, hd, sn, sub, ab, col, dd, k0, k1, k2, k3, k5, e⟩ := hC
  obtain ⟨t1, ha⟩ := exo_at I.hok ea
  refine wrapper_runs F (I.kIn _ _ e) ha hu hl fun h' keep ⟨t2, h2⟩ => h _ ?_
  have same : upd H a (exo a C none) = H := funext fun b => by
    by_cases z : b = a
    · subst z; rw [upd_same, ea]
    · exact upd_ne z
  have J := I.write (t' := s.toks) (x := a) (e := a) (o := exo a C none) (by rw [ea]; trivial) (.inl rfl) keep ⟨_, h2⟩ (exo_ok h2)
  rwa [same] at J
section
variable {X : Cx} {pins : List (Addr × Obj)} {σ : L2.St} {H : Hp} {s : Shared} {a C D f c cc : Addr} {body : List Stmt} {p0 p1 p2 p3 p4 p5 : Pos} {z : Str} {kk : Nat} {E : Value → Shared → Prop}
  {oc : Value} {od : Option Addr} {fd : FuncData} {osl : Array (Option Value)} {ar : Arg} {Q : Flow → Shared → Prop}
/-- the wrapper is called -/
theorem mw_call {u : Addr} {us : List Value} {Q : Value → Shared → Prop} (T : OexC X.K C) (I : Inv X pins σ H s) (ea : H a = some (exo a C none)) (hu : s.heap.get? u = some (PySem.W.kxs_mw "ValueError.__init__" a)) (hl : us.length ≤ sizeLine) (h : ∀ s', Inv X pins σ H s' → Q .none s') :
    wpAny (model X.prog X.w) X.A (call (.ref u) us) Q E s :=
  wrapper_inv F.excBase_ValueError (by
    obtain ⟨nm, q, N, bs, bm, sn, sub, ab, col, dd, k0, k1, k2, k3, k5, z, _⟩ := T.cls
    exact ⟨nm, q, N, bs, bm, true, sn, sub, ab, col, dd, k0, k1, k2, k3, k5, z⟩) I ea hu hl h
theorem sup_step (T : OexC X.K C) (U : SupIn X.prog X.K "ValueError" "ValueError.__init__" C D c cc) (I : Inv X pins σ H s) (hks : X.env.kindOf "super" = some .globalImplicit) (hkc : X.env.kindOf "__class__" = some .free) (hfu : X.env.func = some f) (hco : X.env.code = .ref c)
    (hcl : X.env.cells.lookup ("__class__" : Str) = some cc) (hm : X.mg "super" = none) (hf : X.K.lookup f = some ⟨oc, od, .func fd, osl⟩) (hp : (fd.params.posonlyargs ++ fd.params.args).head? = some ar)
    (hN : X.N[0]? = some ar.arg) (hka : X.env.kindOf ar.arg = some .local) (hσ : σ[0]? = some (some (.ref a))) (ea : H a = some (exo a C none)) (hi : interactive X.env = false) {pl : Sem Bool}
    (he : eval (.Call (.Attribute (.Call (.Name "super" p0) [] [] p1) "__init__" p2) [.Constant (.str z) kk p3] [] p4) X.env = (do
      let ov ← attributeBase (.Call (.Name "super" p0) [] [] p1) "__init__" X.env (eval (.Call (.Name "super" p0) [] [] p1) X.env)
      standAt p2.atName
      let (f, first) ← holding [ov] (getMethod ov "__init__" pl)
      callWith p4 f first (backTo p4 (starEach [.Constant (.str z) kk p3] X.env)) [])) (hQ : ∀ s', Inv X pins σ H s' → Q .next s') :
    _root_.PySem.wpAt (model X.prog X.w) X.A (.func body X.env) (exec (.Expr (.Call (.Attribute (.Call (.Name "super" p0) [] [] p1) "__init__" p2) [.Constant (.str z) kk p3] [] p4) p5) X.env) Q X.xe s := by
  have KX := I.kIn
  obtain ⟨ccl, cdd, vs, ccs, file, tf, hcode, hvs, hfile⟩ := U.code
  obtain ⟨cl, cld, csl, hcell⟩ := U.cell
  obtain ⟨cdD, hD⟩ := U.cls
  obtain ⟨oD, hD1, hD2⟩ : ∃ oD, s.heap.get? D = some oD ∧ oD.data = .cls cdD := by
    unfold PySem.W.clsIn at hD
    split at hD
    · rename_i c d cd' sl ho
      cases hD
      exact ⟨_, KX _ _ ho, rfl⟩
    · cases hD
  obtain ⟨m, hns, hlo⟩ := I.loc
  obtain ⟨v, rv, hv⟩ := hlo 0 _ _ hN hσ (.inl hka)
  obtain rfl : v = Value.ref a := rv
  have hv : m ar.arg = some (.ref a) := by
    rcases hv with ⟨_, hv⟩ | ⟨hk, _⟩
    · exact hv
    · rcases hk with hk | hk <;> rw [hka] at hk <;> cases hk
  obtain ⟨t1, ho⟩ := exo_at I.hok ea
  obtain ⟨nm, q, N, bs, bm, sn, sub, ab, col, dd, k0, k1, k2, k3, k5, hC, hbm⟩ := T.cls
  have hclC : PySem.W.clsIn X.K C = some { name := nm, bases := bs, mro := .ref C :: bm, ns := N, qualname := q, hasDict := true, slotNames := sn, subclasses := sub, abstract := ab, collection := col, hasDel := false } := by unfold PySem.W.clsIn; rw [hC] <;> rfl
  refine ks_wpAt_Expr_any ?_ hi
  refine ks_wpAt_MethodCall ?_ he
  refine ks_wpAt_super_base (env := X.env) hks hkc (by decide) hfu (KX _ _ hf) rfl hp hco (KX _ _ hcode) rfl hvs hfile U.top ?_
  obtain ⟨mb, b1, b2⟩ := I.mod.blt
  refine PySem.W.ks_loadName_global I.ok.kind hks (PySem.Calls.loadGlobal_builtin (by rw [I.ok.glob]; exact I.mod.glob.keeps I.bk) hm (by rw [I.ok.blt]; exact b1.keeps I.bk) ((b2 _ (by decide)).trans PyProof.Rows.Boot.«super») ⟨rfl, ?_⟩)
  refine wpAny_loadName_free I.ok.kind hkc hcl ⟨_, KX _ _ hcell, rfl⟩ ?_
  refine wpAny_loadName_local I.ok.kind hka hns hv ?_
  refine ks_wpAny_isType_cls hD1 hD2 ⟨rfl, ?_⟩
  obtain ⟨hh, g, d, t, os⟩ := s
  refine ks_wpAny_call_super hD1 hD2 ho rfl (fun c e => by cases e) (PySem.W.looks_mroIn KX U.msub) (fun h' e k => ?_)
  have I2 : Inv X pins σ H ⟨h', g, d, t, os⟩ := I.kept (t' := t) k
  have hm2 := U.sup
  unfold PySem.W.ks_superIn at hm2
  rw [hclC] at hm2
  have hI : PySem.W.Looks (model X.prog X.w) h' (isInstance (.ref a) (.type "ValueError")) true := (PySem.W.InstAt.type (x := a) (od := none) ⟨k _ _ ho, rfl, rfl, trivial⟩).andThen (PySem.W.looks_subIn I2.kIn U.subB)
  have hac : a ≠ C := fun e => by
    have h1 : hh.get? C = _ := KX _ _ hC
    rw [← e, ho] at h1
    cases h1
  refine PySem.W.kxs_getMethod PySem.W.kxs_ValueError e (PySem.W.looks_opaque I2.kIn U.opq) (l₀ := .ref C :: bm) ?_ rfl I2.kIn hm2 hI hac (by decide) ?_
  · exact fun A Q E s k q => wpAny_bind ((PySem.W.looks_clsIn I2.kIn hclC) A _ E s k (wpAny_pure q))
  have hpu : ∀ b o, h'.get? b = some o → (h'.push (PySem.W.kxs_mw "ValueError.__init__" a)).get? b = some o := fun b o e => Heap.get?_push_of_some _ e
  have hmw : (h'.push (PySem.W.kxs_mw "ValueError.__init__" a)).get? h'.objs.size = some (PySem.W.kxs_mw "ValueError.__init__" a) := Heap.get?_push_at rfl rfl
  have I3 : Inv X pins σ H ⟨h'.push (PySem.W.kxs_mw "ValueError.__init__" a), g, d, t + 1, os⟩ := I2.kept (t' := t + 1) hpu
  have nu : H h'.objs.size = none := I2.hok.fresh (Nat.le_refl _)
  have I5 : Inv X (pins ++ [(h'.objs.size, PySem.W.kxs_mw "ValueError.__init__" a)]) σ H ⟨h'.push (PySem.W.kxs_mw "ValueError.__init__" a), g, d, t + 1, os⟩ := ⟨I3.ok, I3.os, I3.bare, I3.base, I3.loc, I3.cell, I3.free, I3.freeC, fun p hp => by
    rw [← List.append_assoc] at hp
    rcases List.mem_append.mp hp with hp | hp
    · exact I3.pin p hp
    · rw [List.mem_singleton.mp hp]
      exact ⟨hmw, nu, Nat.ne_of_gt I2.lt, I2.nofs (Nat.le_refl _), fun v e => by cases e⟩, I3.hok, I3.len⟩
  generalize h'.objs.size = u at I5 hmw nu ⊢
  generalize h'.push (PySem.W.kxs_mw "ValueError.__init__" a) = h3 at I5 I3 hmw hpu ⊢
  refine PySem.W.kxs_callWith (i := "ValueError.__init__") (x := a) rfl ?_
  refine PySem.Calls.evalArgs_plain ?_
  refine thn ((pa_cons (pe_str (x := z) (j := kk) (pos := p3)) pa_nil : PA X [.Constant (.str z) kk p3] (tCons (tC (.str z)) tNil)).run p4 _ _ σ H (fun vs H1 => vs = [.str z] ∧ H1 = H) I5 ⟨rfl, rfl⟩) fun us s1 ⟨vs, H1, I4, rv, ev, eH⟩ => ?_
  subst eH ev
  have hpin := (I4.pin (u, PySem.W.kxs_mw "ValueError.__init__" a) (List.mem_append_right _ (List.mem_append_right _ (List.mem_singleton.mpr rfl)))).1
  have I6 : Inv X pins σ H1 s1 := I4.unpinned
  have hl : us.length ≤ sizeLine := by
    rw [← Paired.length rv, sizeLine_eq]
    simp
  exact ⟨hpin, mw_call T I6 ea hpin hl hQ⟩
end
/-- the __init__ of such a class, by the rest of its body -/
theorem fn_sup {CX : CXT} {P : Program} {w : World} {K : PySem.W.Frag} {mg : Str → Option Value} {base : Heap} {k : Nat} {f c cc D : Addr} {name qual : Str} {params : Arguments} {rest : List Stmt} {scope : Scope} {dV kV doc pm ct oc : Value} {an od : Option Addr}
    {osl : Array (Option Value)} {N ps : List Str} {sp : Sp} {p0 p1 p2 p3 p4 p5 : Pos} {z : Str} {kk : Nat} {ar : Arg}
    (lk : K.lookup f = some ⟨oc, od, .func (PySem.W.fnX name qual params (.Expr (.Call (.Attribute (.Call (.Name "super" p0) [] [] p1) "__init__" p2) [.Constant (.str z) kk p3] [] p4) p5 :: rest) scope [("__class__", cc)] dV kV doc pm an (.ref c) ct), osl⟩)
    (hcd : PySem.W.codeIn K (.ref c) qual = true) (S : NdefX.NScope N ps ["__class__"] scope) (hm : mg "super" = none) (hp : (params.posonlyargs ++ params.args).head? = some ar) (hN : N[0]? = some ar.arg) (hka : scope.names.lookup ar.arg = some .local)
    (hks : scope.names.lookup ("super" : Str) = some .globalImplicit)
    (he : ∀ env, ∃ pl, eval (.Call (.Attribute (.Call (.Name "super" p0) [] [] p1) "__init__" p2) [.Constant (.str z) kk p3] [] p4) env = (do
      let ov ← attributeBase (.Call (.Name "super" p0) [] [] p1) "__init__" env (eval (.Call (.Name "super" p0) [] [] p1) env)
      standAt p2.atName
      let (f, first) ← holding [ov] (getMethod ov "__init__" pl)
      callWith p4 f first (backTo p4 (starEach [.Constant (.str z) kk p3] env)) []))
    (len : ∀ vs H Q E, sp vs H Q E → vs.length = ps.length)
    (hbody : ∀ (A : Around) (outer : List Env) (s : Shared) (H : Hp) (vs : List V) (Q : VK) (E : XK), sp vs H Q E →
      (∃ (a C : Addr) (ws : List V), vs = .ref a :: ws ∧ OexC K C ∧ SupIn P K "ValueError" "ValueError.__init__" C D c cc ∧ H a = some (exo a C none)) ∧
      ∃ t, PSs (NdefX.ncx CX P w K mg base N ⟨name, qual, params, rest, scope, [("__class__", cc)], c⟩ f A outer s H E) rest t ∧ t { nx := fun _ H' => Q .non H', rt := Q } (NdefX.startF N vs [none]) H) :
    FnOk P w K mg base CX (k + 1) f (PySem.W.fnX name qual params (.Expr (.Call (.Attribute (.Call (.Name "super" p0) [] [] p1) "__init__" p2) [.Constant (.str z) kk p3] [] p4) p5 :: rest) scope [("__class__", cc)] dV kV doc pm an (.ref c) ct) ps sp := by
  refine ⟨len, fun A outer s H args us vs Q E hr e0 hb r hsp => ?_⟩
  have hl := len _ _ _ _ hsp
  have KX : K.In s.heap := e0.mod.kin.keeps fun b o e => (e0.bs b o e).1
  have lim : s.heap.NoLimit := e0.mod.nolimit.keeps fun b o e => (e0.bs b o e).1
  obtain ⟨⟨a, C, ws, rfl, T, U, ea⟩, t, ht, hq⟩ := hbody A outer s H vs Q E hsp
  obtain ⟨cl, cld, csl, hcell⟩ := U.cell
  have CA : NdefX.CellsAt [(("__class__" : Str), cc)] ["__class__"] [none] s.heap H := ⟨rfl, fun y c' e => by
      have e' := PySem.mem_of_lookup e
      rw [List.mem_singleton] at e'
      injection e' with e1 e2
      subst e2
      exact ⟨(e0.bs _ _ (e0.mod.kin _ _ hcell)).2, _, _, KX _ _ hcell, rfl⟩, fun x y c' h1 h2 => by
      have e1 := PySem.mem_of_lookup h1
      have e2 := PySem.mem_of_lookup h2
      rw [List.mem_singleton] at e1 e2
      injection e1 with e1 _
      injection e2 with e2 _
      rw [e1, e2], fun i y h => by
      have : y = ("__class__" : Str) := by
        have := List.mem_of_getElem? h
        simpa using this
      subst this
      exact ⟨cc, by simp [List.lookup], fun v hv => by
        cases i with
        | zero => simp at hv
        | succ i => simp at hv⟩⟩
  refine ks_codeAny_call_defAt (binds := ps.zip us) hr.depth (KX _ _ lk) rfl lim (PySem.W.codeRec_of KX hcd) rfl hb S.nocell (fun ⟨n, _⟩ hy => S.par n (List.of_mem_zip hy).1) (fun h₁ hns kp => ?_) S.co S.gen S.kind
  have I : Inv (NdefX.ncx CX P w K mg base N ⟨name, qual, params, rest, scope, [("__class__", cc)], c⟩ f A outer s H E) [] (NdefX.startF N (.ref a :: ws) [none]) H { s with heap := h₁, toks := s.toks + (ps.zip us).length } := NdefX.inv_startN S hr.hd e0 hl r CA hns kp
  obtain ⟨pl, he⟩ := he (NdefX.ncx CX P w K mg base N ⟨name, qual, params, rest, scope, [("__class__", cc)], c⟩ f A outer s H E).env
  refine ks_wpAt_execs_cons ?_
  refine sup_step (X := NdefX.ncx CX P w K mg base N ⟨name, qual, params, rest, scope, [("__class__", cc)], c⟩ f A outer s H E) T U I hks (S.frk _ (List.mem_singleton.mpr rfl)) rfl rfl (by show List.lookup ("__class__" : Str) [(("__class__" : Str), cc)] = some cc; simp [List.lookup]) hm lk hp hN hka (by rfl) ea (by show (scope.kind == ScopeKind.module && _) = false; rw [S.kind]; rfl) he fun s' J => ?_
  refine wpAt_of_wpAny (wpAny_mono (ht.run [] s' _ H _ J hq) (fun fl s'' hs => ?_) fun e s' hs => hs)
  have fin : ∀ {σ' : L2.St} {H' : Hp} {v : V} {u : Value}, Inv (NdefX.ncx CX P w K mg base N ⟨name, qual, params, rest, scope, [("__class__", cc)], c⟩ f A outer s H E) [] σ' H' s'' → L2.RelV v u → Q v H' → CE outer P w H s Q u s'' :=
    fun {σ' H' v u} J rv q => ⟨v, H', J.os, J.bare, J.base, J.hok, rv, q⟩
  cases fl with
  | ret u =>
    obtain ⟨v, σ', H', J, rv, q⟩ := hs
    exact fin J rv q
  | next =>
    obtain ⟨σ', H', J, q⟩ := hs
    exact fin (v := V.non) (u := Value.none) J rfl q
  | brk =>
    obtain ⟨_, _, _, q⟩ := hs
    exact False.elim q
  | cont =>
    obtain ⟨_, _, _, q⟩ := hs
    exact False.elim q
end WP

set_option Elab.async false
set_option linter.all false
set_option maxRecDepth 100000
set_option maxHeartbeats 4000000
namespace WP
open PySem PySem.Spec PyProof.Rows L2
/-! ### what the head tells of an own exception class over ValueError whose __init__ says super().__init__ -/
/-- the class's name, its __init__'s qualified name, the def -/
structure ExD where
  x : Str
  qual : Str
  st : Stmt
abbrev InW : Type := Option (Str × Str × Arguments × FuncBody × Scope × Addr × List Str × Addr)
def inW (K : PySem.W.Frag) (x : Str) : InW := match K.lookup (He.fAd K (x, some "__init__")) with
  | some ⟨_, _, .func fd, _⟩ => some (fd.name, fd.qualname, fd.params, fd.body, fd.scope, fd.globals, fd.closure.map (·.1), fd.builtins)
  | _ => none
def ExD.val (d : ExD) : InW := some ("__init__", d.qual, defArgs d.st, .stmts (defBody d.st), defScope d.st, mainGlobals, ["__class__"], builtinsNs)
def supB (P : Program) (K : PySem.W.Frag) (C fI : Addr) (qual : Str) : Bool := match K.lookup fI with
  | some ⟨_, _, .func fd, _⟩ => (match fd.code, fd.closure, fd.defaults with
    | .ref c, [(_, cc)], .none => PySem.W.codeIn K (.ref c) qual && ((match K.lookup c with
        | some ⟨_, _, .fields vs, _⟩ => (match vs[2]? with
          | some (Value.str file _) => P.main.file == file
          | _ => false)
        | _ => false) && (match K.lookup cc with
        | some ⟨_, _, .cell (some (.ref D)), _⟩ => decide (D = C)
        | _ => false))
    | _, _, _ => false)
  | _ => false
def oexB (K : PySem.W.Frag) (C : Addr) : Bool := match K.lookup C with
  | some ⟨.type t, _, .cls ⟨_, _, .ref c :: bm, _, _, true, _, _, _, _, false⟩, ⟨[_, _, _, _, some (.builtin n), _]⟩⟩ => decide (t = "type") && (decide (c = C) && (PySem.HandSPX.refsVE bm && decide (n = "ValueError.__new__")))
  | _ => false
def excB (P : Program) (K : PySem.W.Frag) (d : ExD) : Bool :=
  supB P K (He.ga K d.x) (He.ma K (He.ga K d.x) "__init__") d.qual && (oexB K (He.ga K d.x) && (He.eqO (PySem.W.findIn K (.ref (He.ga K d.x)) "__setattr__") (some (some (.builtin "object.__setattr__"))) && (decide (PySem.W.typeIn K (.ref (He.ga K d.x)) = some (.type "type")) && (PySem.W.keepIn K (.ref (He.ga K d.x)) &&
    (He.eqO (PySem.W.findIn K (.ref (He.ga K d.x)) "__init__") (some (some (.ref (He.ma K (He.ga K d.x) "__init__")))) && (decide (PySem.W.typeIn K (.ref (He.ma K (He.ga K d.x) "__init__")) = some (.type "function")) && (decide (PySem.W.mroIn K (He.ga K d.x) (.ref (He.ga K d.x)) = some true) &&
    (He.eqO (PySem.W.ks_superIn K (He.ga K d.x) (He.ga K d.x) "__init__") (some (some (.builtin "ValueError.__init__"))) && (decide (PySem.W.subIn K (.ref (He.ga K d.x)) (.type "ValueError") = some true) && (He.eqO (PySem.W.nsIn K cStatics "thirdparty.any") (some none) && (xfB K (He.ga K d.x) && He.eqO (PySem.W.nsIn K mainGlobals d.x) (some (some (.ref (He.ga K d.x)))))))))))))))
theorem oexB_ok {K : PySem.W.Frag} {C : Addr} (h : oexB K C = true) : ∃ nm q N bs bm sn sub ab col dd k0 k1 k2 k3 k5, K.lookup C = some (excClassObj nm q C N bs bm true sn sub ab col dd k0 k1 k2 k3 k5 "ValueError.__new__") ∧ PySem.HandSPX.refsVE bm = true := by
  unfold oexB at h
  split at h
  · rename_i t dd nm bs c bm N q sn sub ab col k0 k1 k2 k3 n k5 e
    obtain ⟨h1, h⟩ := Bool.and_eq_true_iff.mp h
    obtain ⟨h2, h⟩ := Bool.and_eq_true_iff.mp h
    obtain ⟨h3, h4⟩ := Bool.and_eq_true_iff.mp h
    have h1 := of_decide_eq_true h1
    have h2 := of_decide_eq_true h2
    have h4 := of_decide_eq_true h4
    subst h1 h2 h4
    exact ⟨nm, q, N, bs, bm, sn, sub, ab, col, dd, k0, k1, k2, k3, k5, e, h3⟩
  · cases h
/-- what the written part says of such a class at C, its __init__ at f -/
structure ExcT (P : Program) (K : PySem.W.Frag) (mg : Str → Option Value) (x qual : Str) (st : Stmt) (C f : Addr) : Prop where
  gC : mg x = some (.ref C)
  T : OexC K C
  xf : XfC K C
  iC : PySem.W.findIn K (.ref C) "__init__" = some (some (.ref f))
  tI : PySem.W.typeIn K (.ref f) = some (.type "function")
  fn : ∃ (oc : Value) (od : Option Addr) (kV doc pm : Value) (an : Option Addr) (c cc : Addr) (ct : Value) (osl : Array (Option Value)),
    K.lookup f = some ⟨oc, od, .func (PySem.W.fnX "__init__" qual (defArgs st) (defBody st) (defScope st) [("__class__", cc)] .none kV doc pm an (.ref c) ct), osl⟩ ∧ PySem.W.codeIn K (.ref c) qual = true ∧ SupIn P K "ValueError" "ValueError.__init__" C C c cc
theorem excT_of {P : Program} {K : PySem.W.Frag} {mg : Str → Option Value} {h : Heap} {d : ExD} (X : K.In h) (G : h.Ns mainGlobals mg) (e : inW K d.x = d.val) (b : excB P K d = true) (htop : (P.main.scope.names.lookup ("super" : Str)).isSome = false) :
    ExcT P K mg d.x d.qual d.st (He.ga K d.x) (He.ma K (He.ga K d.x) "__init__") := by
  unfold excB at b
  obtain ⟨b1, b⟩ := Bool.and_eq_true_iff.mp b
  obtain ⟨b2, b⟩ := Bool.and_eq_true_iff.mp b
  obtain ⟨b3, b⟩ := Bool.and_eq_true_iff.mp b
  obtain ⟨b4, b⟩ := Bool.and_eq_true_iff.mp b
  obtain ⟨b5, b⟩ := Bool.and_eq_true_iff.mp b
  obtain ⟨b6, b⟩ := Bool.and_eq_true_iff.mp b
  obtain ⟨b7, b⟩ := Bool.and_eq_true_iff.mp b
  obtain ⟨b8, b⟩ := Bool.and_eq_true_iff.mp b
  obtain ⟨b9, b⟩ := Bool.and_eq_true_iff.mp b
  obtain ⟨b10, b⟩ := Bool.and_eq_true_iff.mp b
  obtain ⟨b11, b⟩ := Bool.and_eq_true_iff.mp b
  obtain ⟨b12, b13⟩ := Bool.and_eq_true_iff.mp b
  have xf := xfB_ok b12
  refine ⟨PySem.W.mg_of X G (He.eqO_ok b13), ⟨oexB_ok b2, He.eqO_ok b3, xf.exC, of_decide_eq_true b4, b5⟩, xf, He.eqO_ok b6, of_decide_eq_true b7, ?_⟩
  have oex := oexB_ok b2
  unfold supB at b1
  unfold inW at e
  have ef : He.fAd K (d.x, some "__init__") = He.ma K (He.ga K d.x) "__init__" := rfl
  rw [ef] at e
  cases q : K.lookup (He.ma K (He.ga K d.x) "__init__") with
  | none =>
    rw [q] at b1
    cases b1
  | some o =>
    obtain ⟨oc, od, dt, osl⟩ := o
    rw [q] at b1 e
    cases dt with
    | func fd =>
      obtain ⟨n1, n2, n3, n4, n5, n6, n7, n8, n9, n10, n11, n12, n13, n14, n15⟩ := fd
      have e2 : (some (n1, n2, n3, n4, n5, n6, n7.map (·.1), n15) : InW) = some (("__init__" : Str), d.qual, defArgs d.st, FuncBody.stmts (defBody d.st), defScope d.st, mainGlobals, [("__class__" : Str)], builtinsNs) := e
      simp only [Option.some.injEq, Prod.mk.injEq] at e2
      obtain ⟨h1, h2, h3, h4, h5, h6, h7, h8⟩ := e2
      subst h1 h2 h3 h4 h5 h6 h8
      dsimp only at b1
      split at b1
      · rename_i c nmc cc
        obtain ⟨c1, c2⟩ := Bool.and_eq_true_iff.mp b1
        obtain ⟨c2, c3⟩ := Bool.and_eq_true_iff.mp c2
        have h7 : [nmc] = [("__class__" : Str)] := h7
        injection h7 with h7 _
        subst h7
        refine ⟨oc, od, n9, n10, n11, n12, c, cc, n14, osl, rfl, c1, ?_, ?_, ?_, of_decide_eq_true b8, He.eqO_ok b9, of_decide_eq_true b10, He.eqO_ok b11, htop⟩
        · split at c2
          · rename_i ccl cdd vs ccs hc
            split at c2
            · rename_i file tf hv
              exact ⟨ccl, cdd, vs, ccs, file, tf, hc, hv, c2⟩
            · cases c2
          · cases c2
        · split at c3
          · rename_i cl cld D csl hc
            have := of_decide_eq_true c3
            subst this
            exact ⟨cl, cld, csl, hc⟩
          · cases c3
        · obtain ⟨nm, q, N, bs, bm, sn, sub, ab, col, dd, k0, k1, k2, k3, k5, hC, hbm⟩ := oex
          exact ⟨_, by unfold PySem.W.clsIn; rw [hC] <;> rfl⟩
      · cases b1
    | _ => cases b1
/-! ### the hook -/
abbrev AlE : Type := He.AlD × List InW × Bool
def obsE2 (n : Nat) (fa : List He.Fa) (fn : List He.DefD) (xs : List ExD) (ex : PySem.W.Frag → Bool) (g : Addr → Option Obj) : AlE := (He.obsD fa fn (He.frG g (cStatics :: He.asD g n)), xs.map (fun d => inW (He.frG g (cStatics :: He.asD g n)) d.x), ex (He.frG g (cStatics :: He.asD g n)))
def hookE2 (n : Nat) (fa : List He.Fa) (fn : List He.DefD) (xs : List ExD) (ex : PySem.W.Frag → Bool) : PySem.W.Hook where
  α := AlE
  obs := fun s => obsE2 n fa fn xs ex s.heap.get?
  val := fun _ => (He.valD fn, xs.map ExD.val, true)
  says := fun _ h => ∃ K : PySem.W.Frag, K.In h ∧ He.SaysD fa fn K ∧ xs.map (fun d => inW K d.x) = xs.map ExD.val ∧ ex K = true
  of := fun _ _ e => ⟨_, He.frG_in, congrArg (fun z : AlE => z.1) e, congrArg (fun z : AlE => z.2.1) e, congrArg (fun z : AlE => z.2.2) e⟩
  keeps := fun _ _ _ ⟨K, hK, c⟩ k => ⟨K, PySem.W.Frag.In.keeps hK k, c⟩
theorem obsE2_eq {n : Nat} {fa : List He.Fa} {fn : List He.DefD} {xs : List ExD} {ex : PySem.W.Frag → Bool} {g : Addr → Option Obj} {s : Shared} (h : ∀ a, g a = s.heap.get? a) : obsE2 n fa fn xs ex g = (hookE2 n fa fn xs ex).obs s := by
  have e : g = s.heap.get? := funext h
  subst e
  rfl
theorem inW_at {K : PySem.W.Frag} {xs : List ExD} (h : xs.map (fun d => inW K d.x) = xs.map ExD.val) (i : Nat) {d : ExD} (hd : xs[i]? = some d := by rfl) : inW K d.x = d.val := by
  have := congrArg (fun l => l[i]?) h
  simp only [List.getElem?_map, hd] at this
  exact Option.some.inj this
/-! ### C(v): an exception with one field -/
def spInit1 (f : Str) (K : PySem.W.Frag) (C : Addr) : Sp := fun vs H Q _ => ∃ (a : Addr) (v : V), vs = [.ref a, v] ∧ H a = some (exo a C none) ∧ ∀ dx, H dx = none → dx ≠ a → Q .non (upd (upd H dx (exd dx [(f, v)])) a (exo a C (some dx)))
def tMk1 (C : Addr) (f : Str) (ta : TA) : L2.St → Hp → XK → Prop := fun σ H Q => ta σ H fun vs H1 => ∃ v, vs = [v] ∧ ∀ d, H1 d = none → Q (.ref C) (some d) (upd H1 d (.xd [(f, v)]))
theorem mk1_imp {C : Addr} {f : Str} {K : PySem.W.Frag} {ta : TA} (mono : ∀ σ H Q Q', (∀ vs H', Q vs H' → Q' vs H') → ta σ H Q → ta σ H Q') {σ : L2.St} {H : Hp} {Q : XK} (h : tMk1 C f ta σ H Q) : tMkO C (spInit1 f K C) [] ta σ H Q := by
  refine mono _ _ _ _ (fun vs H1 q => ?_) h
  obtain ⟨v, rfl, q⟩ := q
  refine ⟨by simp, fun a ha => ⟨a, v, rfl, upd_same, fun dx hdx hne => ?_⟩⟩
  rw [upd_ne hne] at hdx
  refine ⟨rfl, dx, [(f, v)], upd_same, by rw [upd_ne hne, upd_same], hdx, ?_⟩
  have e : upd (del (upd (upd (upd H1 a (exo a C none)) dx (exd dx [(f, v)])) a (exo a C (some dx))) a) dx (.xd [(f, v)]) = upd H1 dx (.xd [(f, v)]) := by
    funext b
    by_cases hb : b = dx
    · subst hb
      rw [upd_same, upd_same]
    · rw [upd_ne hb, upd_ne hb]
      by_cases hba : b = a
      · subst hba
        rw [del_same, ha]
      · rw [del_ne hba, upd_ne hba, upd_ne hb, upd_ne hba]
  rw [e]
  exact q dx hdx
end WP

set_option Elab.async false
set_option linter.all false
set_option maxRecDepth 100000
set_option maxHeartbeats 4000000
/-! enumerate(tuple), enumerate(list or tuple): proved anew (session 3) from enum1_new, with Draws.tuple and the turn's own state -/
namespace WP
open PySem PySem.Spec PyProof.Rows L2
/-- enumerate(v) of whatever pyIter begins: the iterator o is laid, then the enumerate object behind it, its count at 0 -/
theorem enum1_new {v : Value} {o : Obj} {Z : Heap → Prop} (B : Begins v o Z) : Meets (Builtin.«enumerate.__new__» ⟨[.type "enumerate", v], []⟩) fun _ R s =>
    Z s.heap ∧ R (.ok (.ret (.ref (s.heap.objs.size + 1)))) { s with heap := (s.heap.push o).push { cls := .type "enumerate", data := .fields #[.none, .bool false, .ref s.heap.objs.size, rawInt 0, .none, .none] } } := by
  refine .of_wp fun prog w A R s ⟨hz, h⟩ => ?_
  have sub := sub_enumerate
  obtain ⟨hp, g, d, tk, os⟩ := s
  have go : ∀ (A : Around) (E : Value → Shared → Prop) (Q : Value → Shared → Prop), Q (.ref hp.objs.size) ⟨hp.push o, g, d, tk, os⟩ → wpAny (model prog w) A (pyIter v) Q E ⟨hp, g, d, tk, os⟩ := fun A E Q q => B.iter prog w A E _ Q hz q
  wp_walk using go
  refine wpAny_stack fun fs _ _ _ => ?_
  refine wpAny_pure ?_
  have last : R (.ok (.ret (.ref (hp.push o).objs.size))) ⟨(hp.push o).push { cls := .type "enumerate", data := .fields #[.none, .bool false, .ref hp.objs.size, rawInt 0, .none, .none] }, g, d, tk, os⟩ := by
    rw [Heap.size_push]
    exact h
  split
  · wp_walk using go
    split
    all_goals (wp_walk using go)
    all_goals exact ⟨_, rfl, last⟩
  · wp_walk using go
    exact ⟨_, rfl, last⟩
/-- the call itself -/
theorem enum1_call {prog : Program} {w : World} {A : Around} {E : Value → Shared → Prop} {s : Shared} {v : Value} {o : Obj} {Z : Heap → Prop} {Q : Value → Shared → Prop} (B : Begins v o Z) (hz : Z s.heap)
    (h : ∀ h', IsEnum h' (s.heap.objs.size + 1) s.heap.objs.size 0 .none → h'.get? s.heap.objs.size = some o → (∀ b u, s.heap.get? b = some u → h'.get? b = some u) → Q (.ref (s.heap.objs.size + 1)) { s with heap := h' }) :
    wpAny (model prog w) A (call (.type "enumerate") [v]) Q E s := by
  refine callType_new F.called_enumerate (by decide) (F.typeCall_enumerate_1 v) (F.newCall_enumerate_1 v) (fun x => F.args_object_init_2 x v) F.entry_enumerate_new (enum1_new B) ⟨hz, ?_⟩
  have e0 : ((s.heap.push o).push { cls := .type "enumerate", data := .fields #[.none, .bool false, .ref s.heap.objs.size, rawInt 0, .none, .none] }).get? (s.heap.objs.size + 1) = some { cls := .type "enumerate", data := .fields #[.none, .bool false, .ref s.heap.objs.size, rawInt 0, .none, .none] } := by
    rw [← Heap.size_push s.heap o]
    exact Heap.get?_push_size _ rfl
  exact ⟨⟨_, e0, rfl⟩, h _ e0 (Heap.get?_push_of_some _ (Heap.get?_push_size _ B.free)) fun b u e => Heap.get?_push_of_some _ (Heap.get?_push_of_some _ e)⟩
/-- enumerate over the tuple at a: a new pair for each item -/
def IteT (K : PySem.W.Frag) (a : Addr) : It where
  go i H := ∃ xs x, SqT K H a xs ∧ xs[i]? = some x
  yld i H v H' := ∃ T x, v = .ref T ∧ H T = none ∧ H' = upd H T (.tup [.int (i : Nat), x]) ∧ ∀ xs, SqT K H a xs → xs[i]? = some x
  stop i H := ∃ xs, SqT K H a xs ∧ xs.length ≤ i
/-- how the two iterators stand before item i -/
structure EnT (a e it : Addr) (i : Nat) (h : Heap) : Prop where
  en : ∃ old, IsEnum h e it ((i : Nat) : Int) old
  at_ : h.IsTupleIter it a i
  ne : e ≠ it
  nea : e ≠ a
  nai : a ≠ it
theorem tup_items {X : Cx} {pins : List (Addr × Obj)} {σ : L2.St} {H : Hp} {s : Shared} {a : Addr} {xs : List V} (I : Inv X pins σ H s) (q : SqT X.K H a xs) : ∃ its : List Value, Vals xs its ∧ s.heap.IsTuple a its.toArray := by
  obtain ⟨its, o, n, r, ho, hc, hd⟩ := sqT_at I.hok I.kIn q
  exact ⟨its, r, ⟨o, ho, hc, n, hd⟩⟩
/-- a tuple's iterator that has come to the tuple's end draws nothing -/
theorem spent {prog : Program} {w : World} {A : Around} {it a : Addr} {items : Array Value} {i : Nat} (hh : A.handled = none) (ne : a ≠ it) (hi : items.size ≤ i) :
    Draws prog w A it [it, a] i (fun _ _ => True) fun j h => j = i ∧ h.IsTupleIter it a i ∧ h.IsTuple a items := by
  constructor
  · rintro j h ⟨_, ⟨o, z, _⟩, _⟩
    exact ⟨o, z⟩
  · rintro j h h' ⟨rfl, x, y⟩ hk
    exact ⟨rfl, x.at fun o z => hk it (by simp) o z, y.at fun o z => hk a (by simp) o z⟩
  · rintro j s Q E hj ⟨rfl, _⟩
    exact absurd hj (Nat.lt_irrefl _)
  · rintro s Q E ⟨_, x, y⟩ hE
    exact wpAny_nextOf_tuple_end hh x y (Array.getElem?_eq_none hi) hE
theorem turn_enumT {P : Program} {w : World} {K : PySem.W.Frag} {elts : List Expr} {kk : Nat} {tpos : Pos} (a e it : Addr) : Turn P w K (.Tuple elts kk tpos) (IteT K a) [e, it] e (EnT a e it) := by
  constructor
  · simp
  · intro i h ⟨⟨old, he⟩, ⟨oi, hi, _, hd⟩, _, _, _⟩ b hb
    simp only [List.mem_cons, List.not_mem_nil, or_false] at hb
    rcases hb with rfl | rfl
    · exact ⟨_, he, fun v z => by cases z⟩
    · exact ⟨oi, hi, fun v z => by rw [hd] at z; cases z⟩
  · intro i h h' ⟨⟨old, he⟩, ha, n1, n2, n3⟩ hk
    exact ⟨⟨old, hk e (by simp) _ he⟩, ha.at fun o z => hk it (by simp) o z, n1, n2, n3⟩
  · intro X eP ew eK calm i pins s σ H E I fp tn ⟨xs, x, q, hx⟩
    subst eP ew eK
    obtain ⟨⟨old, he⟩, ha, n1, n2, n3⟩ := tn
    obtain ⟨its, r, ht⟩ := tup_items I q
    have hlen : its.length = xs.length := r.length.symm
    have hi : i < its.toArray.size := by
      have := (List.getElem?_eq_some_iff.mp hx).1
      simp
      omega
    refine wpAny_pyNext_enum_itemD (Draws.tuple (A := X.A.in1) (I.ok.hd calm) it a n3 its.toArray) he ⟨ha, ht⟩ hi n1 (by simp [n1, n2]) fun u h' tk hu out st' hT _ hk => ⟨.ref s.heap.objs.size, rfl, ?_⟩
    have ru : RelV x u := by
      obtain ⟨u', e1, r1⟩ := r.get hx
      have e2 : its[i]? = some u := by simpa using hu
      rw [e1] at e2
      cases e2
      exact r1
    refine wpAny_letOwnedTupleGo_enum out fun h2 he2 sb => ?_
    have nT : H s.heap.objs.size = none := I.hok.fresh (Nat.le_refl _)
    have lt : e < s.heap.objs.size ∧ it < s.heap.objs.size := ⟨Heap.lt_size he, let ⟨_, z, _⟩ := ha; Heap.lt_size z⟩
    have hT2 : h2.get? s.heap.objs.size = some { cls := .type "tuple", data := .seq #[.int i tk, u] } := (sb.2 _ (Nat.ne_of_gt lt.1)).trans hT
    have J : Inv X pins σ (upd H s.heap.objs.size (.tup [.int (i : Nat), x])) { s with heap := h2, toks := tk + 1 } := by
      refine I.turnedNew (ch := [e, it]) (fun b o hb z => ?_) fp (Nat.le_refl _) ⟨by show 2 ≤ sizeLine; decide, [.int i tk, u], .cons ⟨tk, rfl⟩ (.cons ru .nil), ⟨_, hT2, rfl, 0, rfl⟩⟩
      simp only [List.mem_cons, List.not_mem_nil, or_false, not_or] at hb
      exact (sb.2 b hb.1).trans (hk b o hb.1 hb.2 z)
    refine ⟨.ref s.heap.objs.size, _, J, rfl, ⟨_, x, rfl, nT, rfl, fun ys q' => ?_⟩, ⟨⟨_, by exact_mod_cast he2⟩, ?_, n1, n2, n3⟩, fun b hb => ?_⟩
    · obtain ⟨its', r', ht'⟩ := tup_items I q'
      obtain ⟨o1, g1, _, m1, d1⟩ := ht
      obtain ⟨o2, g2, _, m2, d2⟩ := ht'
      rw [g1] at g2
      cases g2
      rw [d1] at d2
      have ee : its = its' := by
        injection d2 with d2 _
        simpa using congrArg Array.toList d2
      subst ee
      rw [← r.inj r']
      exact hx
    · exact st'.1.at fun o z => (sb.2 it (Ne.symm n1)).trans z
    · have := fp b hb
      rw [upd_ne]
      · exact this.1
      · simp only [List.mem_cons, List.not_mem_nil, or_false] at hb
        rcases hb with rfl | rfl
        · exact Nat.ne_of_lt lt.1
        · exact Nat.ne_of_lt lt.2
  · intro X eP ew eK calm i pins s σ H E I fp tn ⟨xs, q, hx⟩
    subst eP ew eK
    obtain ⟨⟨old, he⟩, ha, n1, n2, n3⟩ := tn
    obtain ⟨its, r, ht⟩ := tup_items I q
    have hlen : its.toArray.size ≤ i := by
      have := r.length
      simp
      omega
    refine wpAny_pyNext_enum_endD (spent (A := X.A.in1) (I.ok.hd calm) n3 hlen) he ⟨rfl, ha, ht⟩ fun h' k => ⟨rfl, ?_⟩
    have hit := fp it (by simp)
    exact I.turned (t' := s.toks) k hit.1 hit.2.1 hit.2.2.2.1 hit.2.2.2.2.1 hit.2.2.2.2.2
  · intro A i s Q E ⟨⟨old, he⟩, _, _, _, _⟩ hq
    exact wpAny_pyIter_enum he hq
/-- enumerate(v) as what a loop goes over: its two iterators are new, so they may turn -/
theorem enum_pie {X : Cx} {pins : List (Addr × Obj)} {σ : L2.St} {H : Hp} {s : Shared} {tg : Expr} {R : It → Hp → Prop} {v : Value} {o : Obj} {Z : Heap → Prop} {J : It} {tn : Addr → Addr → Nat → Heap → Prop} (I : Inv X pins σ H s) (B : Begins v o Z) (hz : Z s.heap)
    (T : ∀ e it, Turn X.prog X.w X.K tg J [e, it] e (tn e it)) (st : ∀ h', IsEnum h' (s.heap.objs.size + 1) s.heap.objs.size 0 .none → h'.get? s.heap.objs.size = some o → tn (s.heap.objs.size + 1) s.heap.objs.size 0 h') (q : R J H) :
    wpAny (model X.prog X.w) X.A (call (.type "enumerate") [v]) (fun u s1 => wpAny (model X.prog X.w) X.A (pyIter u) (PIE X pins σ tg R) X.xe s1) X.xe s := by
  refine enum1_call B hz fun h' he hi hk => wpAny_pyIter_enum he ?_
  have young : ∀ b ∈ [s.heap.objs.size + 1, s.heap.objs.size], s.heap.objs.size ≤ b := by
    intro b hb
    simp only [List.mem_cons, List.not_mem_nil, or_false] at hb
    omega
  exact ⟨_, _, _, J, H, rfl, I.kept (t' := s.toks) hk, T _ _, st h' he hi, fun b hb => I.fpOk (young b hb) (I.hok.fresh (young b hb)), q⟩
/-- the iterable enumerate(e), e a tuple or a list -/
def iEnumA (K : PySem.W.Frag) (ta : TA) : TI := fun σ H R => ta σ H fun vs H1 => ∃ a xs, vs = [.ref a] ∧ ((SqT K H1 a xs ∧ R (IteT K a) H1) ∨ (SqL K H1 a xs ∧ R (Ite K a) H1))
theorem pi_enumA {X : Cx} (K : PySem.W.Frag) {e : Expr} {ta : TA} {p pos tpos : Pos} {elts : List Expr} {kk : Nat} (hg : Gl X "enumerate") (hm : X.mg "enumerate" = none) (ha : PA X [e] ta) (hK : X.K = K := by rfl)
    (hs : starEach [e] X.env = [(false, eval e X.env)] := by rfl) : PI X (.Tuple elts kk tpos) (.Call (.Name "enumerate" p) [e] [] pos) (iEnumA K ta) := by
  subst hK
  constructor
  intro pins s σ H R I h
  refine Call_ (ld_blt I hg hm boot_enumerate (PyProof.Rows.callWith_type1 (thn (ha.run pos pins s σ H _ I h) ?_) hs rfl))
  rintro us s1 ⟨vs, H1, J1, r, a, xs, rfl, both⟩
  obtain rfl := r.ref1
  rcases both with ⟨q, hR⟩ | ⟨q, hR⟩
  · obtain ⟨its, _, ht⟩ := tup_items J1 q
    have la : a < s1.heap.objs.size := let ⟨_, z, _⟩ := ht; Heap.lt_size z
    refine enum_pie J1 (begins_tuple a its.toArray) ht (fun e it => turn_enumT a e it) (fun h' he hi => ?_) hR
    exact ⟨⟨_, he⟩, ⟨_, hi, rfl, rfl⟩, Nat.succ_ne_self _, Nat.ne_of_gt (Nat.lt_succ_of_lt la), Nat.ne_of_lt la⟩
  · obtain ⟨its, o, n, _, ho, hc, hd⟩ := sqL_at J1.hok J1.kIn q
    refine enum_pie J1 (begins_list a its.toArray) ⟨o, ho, hc, n, hd⟩ (fun e it => turn_enum a e it) (fun h' he hi => ?_) hR
    exact ⟨⟨_, he⟩, ⟨_, hi, rfl, rfl⟩, Nat.succ_ne_self _⟩
/-- what item i of an enumerate over xs gives -/
def YEn (xs : List V) (i : Nat) (H : Hp) (v : V) (H' : Hp) : Prop := ∃ T x, v = .ref T ∧ H T = none ∧ H' = upd H T (.tup [.int (i : Nat), x]) ∧ xs[i]? = some x
theorem walk_enumT {K : PySem.W.Frag} {a : Addr} {xs : List V} : L2.Walk (IteT K a) xs.length (fun H => SqT K H a xs) (YEn xs) where
  goes i _ hi q := ⟨xs, xs[i], q, List.getElem?_eq_getElem hi⟩
  stops _ q := ⟨xs, q, Nat.le_refl _⟩
  yields := by
    rintro i H v H' _ q ⟨T, x, e1, e2, e3, k⟩
    exact ⟨T, x, e1, e2, e3, k xs q⟩
theorem walk_enumL {K : PySem.W.Frag} {a : Addr} {xs : List V} : L2.Walk (Ite K a) xs.length (fun H => SqL K H a xs) (YEn xs) where
  goes i _ hi q := ⟨xs, xs[i], q, List.getElem?_eq_getElem hi⟩
  stops _ q := ⟨xs, q, Nat.le_refl _⟩
  yields := by
    rintro i H v H' _ q ⟨T, x, e1, e2, e3, k⟩
    exact ⟨T, x, e1, e2, e3, k xs q⟩
theorem r_enumA {K : PySem.W.Frag} {ta : TA} {σ : L2.St} {H : Hp} {R : It → Hp → Prop} (q : ta σ H fun vs H1 => ∃ a xs, vs = [.ref a] ∧ ((SqT K H1 a xs ∧ R (IteT K a) H1) ∨ (SqL K H1 a xs ∧ R (Ite K a) H1))) : iEnumA K ta σ H R := q
end WP

set_option Elab.async false
set_option linter.all false
set_option maxRecDepth 100000
set_option maxHeartbeats 4000000
namespace WP
open PySem PySem.Spec PyProof.Rows L2
/-! ### raise -/
theorem r_mkO {C : Addr} {sp : Sp} {dvs : List V} {ta : TA} {σ : L2.St} {H : Hp} {Q : XK} (q : ta σ H fun vs H1 => vs.length ≤ 1000 ∧ ∀ a, H1 a = none → sp (.ref a :: (vs ++ dvs)) (upd H1 a (exo a C none))
  (fun v H2 => v = .non ∧ ∃ (d : Addr) (fs : List (Str × V)), H2 a = some (exo a C (some d)) ∧ H2 d = some (exd d fs) ∧ H1 d = none ∧ Q (.ref C) (some d) (upd (del H2 a) d (.xd fs))) (fun _ _ _ => False)) : tMkO C sp dvs ta σ H Q := q
def tRaise (t : L2.St → Hp → XK → Prop) (W : WX) : TS := fun _ σ H => t σ H fun cls d H' => W cls d σ H'
theorem r_raise {t : L2.St → Hp → XK → Prop} {W : WX} {D : Ends} {σ : L2.St} {H : Hp} (q : t σ H fun cls d H' => W cls d σ H') : tRaise t W D σ H := q
theorem ps_raiseA {X : Cx} {W : WX} {e : Expr} {t : L2.St → Hp → XK → Prop} {pos : Pos} (hc : X.calm = true) (tk : Takes X W) (he : PMk X e t) : PS X (.Raise (some e) none pos) (tRaise t W) := ps_raise hc tk he
/-- C(v): the exception and its one field -/
theorem mk1 {C : Addr} {f : Str} {K : PySem.W.Frag} {v : V} {H1 : Hp} {Q : XK} (q : ∀ d, H1 d = none → Q (.ref C) (some d) (upd H1 d (.xd [(f, v)]))) : [v].length ≤ 1000 ∧ ∀ a, H1 a = none → spInit1 f K C (.ref a :: ([v] ++ [])) (upd H1 a (exo a C none))
    (fun v H2 => v = .non ∧ ∃ (d : Addr) (fs : List (Str × V)), H2 a = some (exo a C (some d)) ∧ H2 d = some (exd d fs) ∧ H1 d = none ∧ Q (.ref C) (some d) (upd (del H2 a) d (.xd fs))) (fun _ _ _ => False) := by
  refine ⟨by simp, fun a ha => ⟨a, v, rfl, upd_same, fun dx hdx hne => ?_⟩⟩
  rw [upd_ne hne] at hdx
  refine ⟨rfl, dx, [(f, v)], upd_same, by rw [upd_ne hne, upd_same], hdx, ?_⟩
  have e : upd (del (upd (upd (upd H1 a (exo a C none)) dx (exd dx [(f, v)])) a (exo a C (some dx))) a) dx (.xd [(f, v)]) = upd H1 dx (.xd [(f, v)]) := by
    funext b
    by_cases hb : b = dx
    · subst hb
      rw [upd_same, upd_same]
    · rw [upd_ne hb, upd_ne hb]
      by_cases hba : b = a
      · subst hba
        rw [del_same, ha]
      · rw [del_ne hba, upd_ne hba, upd_ne hb, upd_ne hba]
  rw [e]
  exact q dx hdx
/-! ### constants as values -/
def isCnst : V → Bool
  | .non => true
  | .int i => decide (i.natAbs < 10 ^ 30)
  | .str z => isWordS z 8
  | _ => false
theorem cst_of {v : V} (h : isCnst v = true) : Cst v := by
  cases v with
  | non => exact True.intro
  | int i =>
    have h : decide (i.natAbs < 10 ^ 30) = true := h
    have h2 : i.natAbs < 10 ^ 30 := of_decide_eq_true h
    exact h2
  | str z =>
    have h : isWordS z 8 = true := h
    rw [isWordS, Bool.and_eq_true, decide_eq_true_eq, List.all_eq_true] at h
    exact ⟨by omega, fun c hc => small_mem.mp (of_decide_eq_true (h.2 c hc))⟩
  | _ => cases h
/-- the place of the first value that cannot stand -/
def dueFrom : Nat → List V → Option Nat
  | _, [] => none
  | i, v :: r => if i = 3 then some i else if isCnst v then dueFrom (i + 1) r else some i
theorem due_step {vs : List V} {i : Nat} (hi : i < vs.length) : dueFrom i (vs.drop i) = if i = 3 then some i else if isCnst (vs.getD i .non) then dueFrom (i + 1) (vs.drop (i + 1)) else some i := by
  rw [List.drop_eq_getElem_cons hi, List.getD_eq_getElem?_getD, List.getElem?_eq_getElem hi]
  rfl
theorem due_none : ∀ {vs : List V} {i : Nat}, dueFrom i vs = none → i ≤ 3 → (∀ v ∈ vs, isCnst v = true) ∧ i + vs.length ≤ 3
  | [], i, _, h => ⟨fun v hv => by (cases hv), by simpa using h⟩
  | v :: r, i, e, h => by
    unfold dueFrom at e
    split at e
    · cases e
    · split at e
      · rename_i h1 h2
        obtain ⟨a, b⟩ := due_none e (by omega)
        exact ⟨fun u hu => by rcases List.mem_cons.mp hu with rfl | hu; exact h2; exact a u hu, by rw [List.length_cons]; omega⟩
      · cases e
end WP

set_option Elab.async false
set_option linter.all false
set_option maxRecDepth 100000
set_option maxHeartbeats 4000000
namespace WP
open PySem PySem.Spec PyProof.Rows L2
/-! ### an own exception class, called -/
structure CalE (P : Program) (w : World) (K : PySem.W.Frag) (mg : Str → Option Value) (base : Heap) (k : Nat) (x : Str) (C : Addr) (sp : Sp) : Prop where
  ex : ∃ (f : Addr) (fd : FuncData) (ps : List Str), OexC K C ∧ PySem.W.findIn K (.ref C) "__init__" = some (some (.ref f)) ∧ PySem.W.typeIn K (.ref f) = some (.type "function") ∧ FnOk P w K mg base L2.CX0 k f fd ps sp ∧ Binds K fd ps [] ∧ mg x = some (.ref C)
theorem pmk_exc {X : Cx} {k j : Nat} {x : Str} {C : Addr} {sp : Sp} {e : Expr} {es : List Expr} {ta : TA} {p pos : Pos} (c : CalE X.prog X.w X.K X.mg X.base k x C sp) (hr : Room j X.A) (hk : k + 1 ≤ j) (hg : Gl X x) (ha : PA X (e :: es) ta)
    (hdb : (x == ("__debug__" : Str)) = false := by decide) (he : starEach (e :: es) X.env = (false, eval e X.env) :: starEach es X.env := by rfl) (hpl : (backTo pos (starEach es X.env)).any (·.1) = false := by rfl) :
    PMk X (.Call (.Name x p) (e :: es) [] pos) (tMkO C sp [] ta) := by
  obtain ⟨f, fd, ps, T, iC, tI, F, b, m⟩ := c.ex
  exact pmk_oex T iC tI F (hr.mono hk) b .nil L2.pass0 hg m ha hdb he hpl
/-! ### defs that may raise; defs with a star parameter -/
structure CalX (P : Program) (w : World) (K : PySem.W.Frag) (mg : Str → Option Value) (base : Heap) (k : Nat) (x : Str) (sp : Sp) : Prop where
  ex : ∃ (f : Addr) (fd : FuncData) (ps : List Str), FnOk P w K mg base (L2.CX P w) k f fd ps sp ∧ mg x = some (.ref f) ∧ PySem.W.keepIn K (.ref f) = true ∧ Binds K fd ps []
structure CalR (P : Program) (w : World) (K : PySem.W.Frag) (mg : Str → Option Value) (base : Heap) (k : Nat) (x : Str) (sp : Sp) : Prop where
  ex : ∃ (f : Addr), FnR P w K mg base (L2.CX P w) k f sp ∧ mg x = some (.ref f) ∧ PySem.W.keepIn K (.ref f) = true
section
variable {P : Program} {w : World} {K : PySem.W.Frag} {mg : Str → Option Value} {base : Heap}
theorem calX_of {x : Str} {st : Stmt} {N ps : List Str} {k : Nat} {sp : Sp} (F : At K mg x st) (S : FnScope N ps (defScope st)) (len : ∀ vs H Q E, sp vs H Q E → vs.length = ps.length)
    (hb : ∀ (kV doc pm : Value) (an : Option Addr) (cdv ct : Value) (us : List Value), us.length = ps.length → bindArgs (PySem.W.fnOf x x (defArgs st) (defBody st) (defScope st) .none kV doc pm an cdv ct) ⟨us, []⟩ = pure (ps.zip us))
    (hbody : ∀ (f : Addr) (cdv : Value) (A : Around) (outer : List Env) (s : Shared) (H : Hp) (vs : List V) (Q : VK) (E : XK), Room k (A.deeper (envOfC x (defScope st) s.heap.objs.size f cdv)) → sp vs H Q E →
      ∃ t, PSs (cxOf (L2.CX P w) P w K mg base N x (defScope st) f cdv A outer s H E) (defBody st) t ∧ t { nx := fun _ H' => Q .non H', rt := Q } (start N vs) H) : CalX P w K mg base (k + 1) x sp := by
  obtain ⟨f, fd, F, m⟩ := F.ex
  exact ⟨f, fd, ps, F.ok S len fun cdv A outer s H vs Q E hr hsp => hbody f cdv A outer s H vs Q E hr hsp, m, F.kp, F.bindsN hb⟩
theorem calR_of {x : Str} {st : Stmt} {N ps : List Str} {pv : Str} {k : Nat} {sp : Sp} (F : At K mg x st) (S : FnScope N (ps ++ [pv]) (defScope st))
    (hb : ∀ (kV doc pm : Value) (an : Option Addr) (cdv ct : Value) (us rest : List Value), us.length = ps.length → bindArgs (PySem.W.fnOf x x (defArgs st) (defBody st) (defScope st) .none kV doc pm an cdv ct) ⟨us ++ rest, []⟩ = (newTuple rest >>= fun t => pure (ps.zip us ++ [(pv, t)])))
    (hbody : ∀ (f : Addr) (cdv : Value) (A : Around) (outer : List Env) (s : Shared) (H : Hp) (vs : List V) (Q : VK) (E : XK), Room k (A.deeper (envOfC x (defScope st) s.heap.objs.size f cdv)) → sp vs H Q E →
      ∃ t, PSs (cxOf (L2.CX P w) P w K mg base N x (defScope st) f cdv A outer s H E) (defBody st) t ∧ t { nx := fun _ H' => Q .non H', rt := Q } (start N vs) H) :
    CalR P w K mg base (k + 1) x (fun vs H Q E => ∃ ws rest, vs = ws ++ rest ∧ ws.length = ps.length ∧ rest.length ≤ sizeLine ∧ ∀ p, H p = Option.none → sp (ws ++ [V.ref p]) (upd H p (.tup rest)) Q E) := by
  obtain ⟨f, fd, F, m⟩ := F.ex
  obtain ⟨oc, od, dV, kV, doc, pm, an, cdv, ct, osl, rfl, lk, hcd, hD, hK⟩ := F.ex
  rcases hD with ⟨_, rfl⟩ | ⟨e, _⟩
  · exact ⟨f, StX.fn_star lk hcd S StX.cxUp (hb kV doc pm an cdv ct) fun A outer s H vs Q E hr hsp => hbody f cdv A outer s H vs Q E hr hsp, m, F.kp⟩
  · exact absurd rfl e
end
def tCallR (sp : Sp) (E : XK) (t : TA) : TE := fun σ H Q => t σ H fun vs H1 => sp vs H1 Q E
theorem r_callR {sp : Sp} {E : XK} {t : TA} {σ : L2.St} {H : Hp} {Q : VK} (q : t σ H fun vs H1 => sp vs H1 Q E) : tCallR sp E t σ H Q := q
theorem r_callS {sp : Sp} {E : L2.St → XK} {t : TA} {σ : L2.St} {H : Hp} {Q : VK} (q : t σ H fun vs H1 => sp vs H1 Q (E σ)) : tCallS sp E t σ H Q := q
section
variable {X : Cx} {k j : Nat} {x : Str} {sp : Sp} {E : XK} {W : WX} {p pos : Pos} {e : Expr} {es : List Expr} {t : TA}
/-- f(e, ..), f with a star parameter; what it raises is the def's own -/
theorem pe_cR (c : CalR X.prog X.w X.K X.mg X.base k x sp) (hr : Room j X.A) (hk : k ≤ j) (hg : Gl X x) (tk : Takes X (fun cls d _ H => E cls d H)) (ha : PA X (e :: es) t)
    (hdb : (x == ("__debug__" : Str)) = false := by decide) (he : starEach (e :: es) X.env = (false, eval e X.env) :: starEach es X.env := by rfl) (hpl : (backTo pos (starEach es X.env)).any (·.1) = false := by rfl) :
    PE X (.Call (.Name x p) (e :: es) [] pos) (tCallR sp E t) := by
  obtain ⟨f, F, hm, kp⟩ := c.ex
  refine ⟨fun pins s σ H Q I h => ?_⟩
  refine wpAny_Call_Name_kw (ld_glob I hg hm ?_ hdb)
  refine PySem.W.callWith_K (h₀ := X.base) I.ok.mod.kin kp (thn (ha.run pos pins s σ H _ I h) fun us s1 ⟨vs, H1, I1, r, q⟩ => ⟨I1.kIn, ?_⟩) he hpl
  exact wpAny_call (run_fnR F (hr.mono hk) (passes_call tk fun _ _ _ _ h => h) I1 r q)
/-- f(e, ..) within a try -/
theorem pe_cX (c : CalX X.prog X.w X.K X.mg X.base k x sp) (hr : Room j X.A) (hk : k ≤ j) (hg : Gl X x) (tk : Takes X W) (ha : PA X (e :: es) t)
    (hdb : (x == ("__debug__" : Str)) = false := by decide) (he : starEach (e :: es) X.env = (false, eval e X.env) :: starEach es X.env := by rfl) (hpl : (backTo pos (starEach es X.env)).any (·.1) = false := by rfl) :
    PE X (.Call (.Name x p) (e :: es) [] pos) (tCallS sp (WE W) t) := by
  obtain ⟨f, fd, ps, F, hm, kp, b⟩ := c.ex
  exact pe_callS F (hr.mono hk) hg hm kp b (fun σ => passAt tk σ) ha hdb he hpl
end
theorem r_par3 {i j l : Nat} {ta : TA} {D : Ends} {σ : L2.St} {H : Hp} (q : ta σ H fun vs H1 => ∃ u v w, vs = [u, v, w] ∧ D.nx (((σ.set i (some u)).set j (some v)).set l (some w)) H1) : tPar3 i j l ta D σ H := q
end WP

set_option Elab.async false
set_option linter.all false
set_option maxRecDepth 100000
set_option maxHeartbeats 4000000
/-! dict(a written tuple of pairs) -/
namespace WP
open PySem PySem.Spec PyProof.Rows L2
theorem pairs_ofT {X : Cx} {pins : List (Addr × Obj)} {σ : L2.St} {H : Hp} {s : Shared} (I : Inv X pins σ H s) : ∀ {ps : List Addr} {kvs : List (Key × V)}, Paired (fun p kv => SqT X.K H p [kV kv.1, kv.2]) ps kvs →
    ∃ (prs : List (Key × Value)) (us : List (Value × Value)), KV kvs prs ∧ prs.length = ps.length ∧ us.length = ps.length ∧ ∀ (j : Nat) (k v : Value), us[j]? = some (k, v) → ∃ (b : Addr) (q : Key), ps[j]? = some b ∧ prs[j]? = some (q, v) ∧ IsTup s.heap b #[k, v] ∧ keyIs q k = true
  | _, _, .nil => ⟨[], [], .nil, rfl, rfl, fun j k v e => by simp at e⟩
  | _, _, .cons (a := p) (b := kv) h t => by
    obtain ⟨prs, us, r, hl, hl2, hp⟩ := pairs_ofT I t
    obtain ⟨its, rv, ht, _⟩ := I.tuple h
    obtain ⟨u, y, ei, ru, ry⟩ := vals2 rv
    subst ei
    refine ⟨(kv.1, y) :: prs, (u, y) :: us, .cons ⟨rfl, ry⟩ r, by rw [List.length_cons, List.length_cons, hl], by rw [List.length_cons, List.length_cons, hl2], fun j k v e => ?_⟩
    cases j with
    | zero =>
      have e' : (u, y) = (k, v) := Option.some.inj e
      injection e' with e1 e2
      subst e1 e2
      exact ⟨p, kv.1, rfl, rfl, ht, kV_is (P := X.prog) (w := X.w) ru⟩
    | succ j =>
      obtain ⟨b, q, e1, e2, e3, e4⟩ := hp j k v (by simpa using e)
      exact ⟨b, q, by simpa using e1, by simpa using e2, e3, e4⟩
/-- dict(a), a the written tuple of the pairs ps -/
def rDictT (K : PySem.W.Frag) : List V → Hp → VK → Prop := fun xs H Q => ∃ (a : Addr) (o : Obj) (n : Nat) (ps : List Addr) (kvs : List (Key × V)), xs = [.ref a] ∧ K.lookup a = some o ∧ o.cls = .type "tuple" ∧ o.dict = none ∧ o.data = .seq (ps.map Value.ref).toArray n ∧ ps.length ≤ sizeLine ∧
  Paired (fun p kv => SqT K H p [kV kv.1, kv.2]) ps kvs ∧ ∀ p, H p = none → Q (.ref p) (upd H p (.dK (mergeK [] kvs)))
theorem call_dictT {X : Cx} (K : PySem.W.Frag) (hcalm : X.calm = true) (hK : X.K = K := by rfl) : CallR X (.type "dict") (rDictT K) := by
  subst hK
  intro pins s σ H xs us Q I r q
  obtain ⟨a, o, n, ps, kvs, ex, lk, hc, hd, hdat, hz, hp, q⟩ := q
  subst ex
  obtain ⟨u, eu, rx⟩ := vals1 r
  subst eu
  cases rx
  obtain ⟨prs, vs, rel, hl, hl2, hpr⟩ := pairs_ofT I hp
  have ho := I.kIn _ _ lk
  refine PySem.call_dict_pairs (knd := mixKind X.prog X.w) (kvs := prs) (PySem.PairArg.tuple a (ps.map Value.ref).toArray (fun j => ps.getD j 0) vs) (I.ok.hd hcalm) ⟨⟨o, n, ho, hc, hd, hdat⟩, by simp [hl2], fun j k v e => ?_⟩ ⟨by rw [hl, hl2], fun j k v e => ?_⟩ (by rw [hl2]; exact hz) fun h' tk hd' k => ?_
  · obtain ⟨b, q', e1, e2, e3, e4⟩ := hpr j k v e
    refine ⟨by simp [e1], ?_⟩
    have eg : ps.getD j 0 = b := by rw [List.getD_eq_getElem?_getD, e1]; rfl
    show PairAt s.heap (ps.getD j 0) k v
    rw [eg]
    exact .inl e3
  · obtain ⟨b, q', e1, e2, e3, e4⟩ := hpr j k v e
    exact ⟨q', e2, e4⟩
  · have hm : (s.heap.objs.size == sysModules) = false := beq_eq_false_iff_ne.mpr (Nat.ne_of_gt I.big)
    have hlen : (mergeK [] kvs).length ≤ sizeLine := by
      refine Nat.le_trans (length_mergeK kvs []) ?_
      rw [List.length_nil, Nat.zero_add, rel.length, hl]
      exact hz
    exact ⟨.ref s.heap.objs.size, upd H s.heap.objs.size (.dK (mergeK [] kvs)), I.laid (t' := tk) (fun b o e => k b o (by simp) e) (Nat.le_refl _) (show ObjOk X.prog X.w _ _ _ (.dK (mergeK [] kvs)) from ⟨hlen, hm, merged [] prs, KV.merge rel .nil, hd'⟩), rfl, q _ (I.hok.fresh (Nat.le_refl _))⟩
end WP

set_option Elab.async false
set_option linter.all false
set_option maxRecDepth 100000
set_option maxHeartbeats 4000000
namespace WP
open PySem PySem.Spec PyProof.Rows L2
local macro_rules | `(tactic| walk_at "rd") => `(tactic| repeat (first
  | with_reducible refine r_seq ?_ | with_reducible refine r_enumA ?_ | with_reducible refine r_mkO ?_ | with_reducible refine r_raise ?_ | with_reducible refine r_callW ?_ | with_reducible refine r_tru ?_ | with_reducible refine r_var rfl ?_ | with_reducible refine r_c ?_ | with_reducible refine r_op ?_ | with_reducible refine r_cons ?_ | with_reducible refine r_nil ?_
  | with_reducible refine r_cb ?_ | with_reducible refine r_call ?_ | with_reducible refine r_test ?_ | with_reducible refine r_B ?_ | with_reducible refine r_bl ?_ | with_reducible refine r_asg ?_ | with_reducible refine r_asgS ?_
  | with_reducible refine r_ret ?_ | with_reducible refine r_drop ?_ | with_reducible refine r_ifS ?_ | with_reducible refine r_if ?_ | with_reducible refine r_and ?_ | with_reducible refine r_or ?_ | with_reducible refine r_not ?_
  | with_reducible refine r_andV ?_ | with_reducible refine r_orV ?_ | with_reducible refine r_notV ?_ | with_reducible refine r_chain ?_ | with_reducible refine r_sl ?_ | with_reducible refine r_nopart ?_ | with_reducible refine r_part ?_
  | with_reducible refine r_intO ?_ | with_reducible refine r_two ?_ | with_reducible refine r_m1 ?_ | with_reducible refine r_bm ?_ | with_reducible refine r_next ?_ | with_reducible refine r_gCons ?_ | with_reducible refine r_gNil ?_ | with_reducible refine r_asgT ?_ | with_reducible refine r_for ?_ | with_reducible refine r_rng1 ?_ | with_reducible refine r_iList ?_ | with_reducible refine r_iAny ?_ | with_reducible refine r_lc ?_ | with_reducible refine r_yes ?_ | with_reducible refine r_gN ?_ | with_reducible refine r_par ?_ | with_reducible refine r_un ?_ | with_reducible refine r_brk ?_ | with_reducible refine r_cont ?_
  | with_reducible refine r_I0 ?_ | with_reducible refine r_U ?_ | with_reducible refine r_addI ?_ | with_reducible refine r_abs ?_ | with_reducible refine r_intI ?_ | with_reducible refine r_max2 ?_ | with_reducible refine r_min2 ?_
  | with_reducible refine r_ltI ?_ | with_reducible refine r_leI ?_ | with_reducible refine r_gtI ?_ | with_reducible refine r_geI ?_ | with_reducible refine r_isN_non ?_ | with_reducible refine r_isN_int ?_ | with_reducible refine r_isN_str ?_ | with_reducible refine r_isN_bl ?_ | with_reducible refine r_isN_ref ?_ | with_reducible refine r_isN ?_ | with_reducible refine r_isB ?_ | with_reducible refine r_isnotN_non ?_ | with_reducible refine r_isnotN_int ?_ | with_reducible refine r_isnotN_str ?_ | with_reducible refine r_isnotN_bl ?_ | with_reducible refine r_isnotN_ref ?_ | with_reducible refine r_isnotN ?_ | with_reducible refine r_isnotB ?_
  | with_reducible refine r_inS ?_ | with_reducible refine r_eqS rfl ?_ | with_reducible refine r_neS rfl ?_ | with_reducible refine r_lst ?_ | with_reducible refine r_tup ?_ | with_reducible refine iteT ?_ | with_reducible refine iteF ?_))
local macro_rules | `(tactic| walk_at "isi") => `(tactic| (first
  | with_reducible refine r_isi_non_int ?_
  | with_reducible refine r_isi_non_str ?_
  | with_reducible refine r_isi_non_list ?_
  | with_reducible refine r_isi_non_tuple ?_
  | with_reducible refine r_isi_non_bool ?_
  | with_reducible refine r_isi_bl_int ?_
  | with_reducible refine r_isi_bl_str ?_
  | with_reducible refine r_isi_bl_list ?_
  | with_reducible refine r_isi_bl_tuple ?_
  | with_reducible refine r_isi_bl_bool ?_
  | with_reducible refine r_isi_int_int ?_
  | with_reducible refine r_isi_int_str ?_
  | with_reducible refine r_isi_int_list ?_
  | with_reducible refine r_isi_int_tuple ?_
  | with_reducible refine r_isi_int_bool ?_
  | with_reducible refine r_isi_str_int ?_
  | with_reducible refine r_isi_str_str ?_
  | with_reducible refine r_isi_str_list ?_
  | with_reducible refine r_isi_str_tuple ?_
  | with_reducible refine r_isi_str_bool ?_
  | with_reducible refine r_isi_lst_int (SqL.of (by assumption)) ?_
  | with_reducible refine r_isi_lst_str (SqL.of (by assumption)) ?_
  | with_reducible refine r_isi_lst_list (SqL.of (by assumption)) ?_
  | with_reducible refine r_isi_lst_tuple (SqL.of (by assumption)) ?_
  | with_reducible refine r_isi_lst_bool (SqL.of (by assumption)) ?_
  | with_reducible refine r_isi_tup_int (SqT.of (by assumption)) ?_
  | with_reducible refine r_isi_tup_str (SqT.of (by assumption)) ?_
  | with_reducible refine r_isi_tup_list (SqT.of (by assumption)) ?_
  | with_reducible refine r_isi_tup_tuple (SqT.of (by assumption)) ?_
  | with_reducible refine r_isi_tup_bool (SqT.of (by assumption)) ?_))
local macro_rules | `(tactic| walk_at "rs") => `(tactic| (first
  | ((with_reducible refine iteTc ?hc ?_); (case hc => rfl)) | ((with_reducible refine iteFc ?hc ?_); (case hc => rfl))
  | walk_at "isi"
  | refine r_ixL (SqL.of (by assumption)) rfl ?_ | refine r_ixL (SqL.of upd_same) rfl ?_
  | refine r_I (C := fun _ j => 0 < j) (by first | decide | assumption | omega) ?_
  | refine r_mulI (.inl ⟨by decide, by decide⟩) ?_ | refine r_mulI (.inr ⟨by decide, by decide⟩) ?_ | refine r_mulI (.inr ⟨by omega, by omega⟩) ?_ | refine r_mulI (.inl ⟨by omega, by omega⟩) ?_
  | refine r_I (wide_div (b := 64) (by decide) (by decide) (by decide) (by decide)) ?_
  | refine r_I (C := CPow) ⟨by decide, by decide, by decide⟩ ?_
  | refine r_setL (by assumption) rfl ?_ | refine r_setL upd_same rfl ?_))
local macro_rules | `(tactic| walk_at "rx") => `(tactic| (walk_at "rd"; (repeat (walk_at "rs"; walk_at "rd"))))

def top (i : Nat) : Stmt := PySem.Challenge.pw_whatpasses_k08_call_texts.main.body.getD i (.Pass ⟨0, 0, 0, 0⟩)
abbrev s_is_word : Stmt := top 6
abbrev N_is_word : List Str := ["thing", "most", "sign"]
theorem sc_is_word : FnScope N_is_word ["thing", "most"] (defScope s_is_word) := ⟨rfl, rfl, rfl, by decide +kernel, rfl, by decide +kernel, by decide +kernel⟩
def spWordP (K : PySem.W.Frag) : Sp := fun vs H Q _ => ∃ (v : V) (d : PyData) (m : Int), vs = [v, .int m] ∧ Dp K H v d ∧ fit d = true ∧ ∀ H', Evl.Ex H H' → Q (.bl (isWordD m d)) H'
theorem smallE : ("abcdefghijklmnopqrstuvwxyz" : Str).cps.toList = smallL := by decide +kernel
section
variable {P : Program} {w : World} {K : PySem.W.Frag} {mg : Str → Option Value} {base : Heap}
theorem b_is_word {f : Addr} {cdv : Value} {A : Around} {outer : List Env} {s : Shared} {H : Hp} {vs : List V} {Q : VK} {E : XK} (B : Bl mg) (g_SMALL : ∃ u, mg "SMALL" = some u ∧ RelV (.str "abcdefghijklmnopqrstuvwxyz") u)
    (hr : Room 0 (A.deeper (envOfC "is_word" (defScope s_is_word) s.heap.objs.size f cdv))) (h : spWordP K vs H Q E) :
    ∃ t, PSs (cxOf L2.CX0 P w K mg base N_is_word "is_word" (defScope s_is_word) f cdv A outer s H E).nox (defBody s_is_word) t ∧ t { nx := fun _ H' => Q .non H', rt := Q } (start N_is_word vs) H := by
  obtain ⟨v, d, m, rfl, hd, hf, k⟩ := h
  refine ⟨_, (pss_one (ps_ret (pe_and (pe_callB (call_isinstanceA K) rfl B.isinstance (by decide +kernel) (pa_cons (pv 0) (pa_cons (pe_bltn (v := .ty "str") rfl B.str (by decide +kernel) rfl) pa_nil))) (pe_and (pe_cmpR op_leA (pe_callB (call_lenA K) rfl B.len (by decide +kernel) (pa_cons (pv 0) pa_nil)) (pv 1) (nomark _)) (pe_one (pe_callB (call_allA K rfl) rfl B.all (by decide +kernel) (pa_cons (pe_lc (own := [("sign", 2)]) rfl sc_is_word.nd (pi_any K (pv 0)) (blkOk_by (N := N_is_word) (sc := defScope s_is_word) (by decide +kernel)) (fun _ _ _ _ _ => (pg_name (i := 2) sc_is_word.nd rfl (Or.inl rfl))) (fun _ _ _ _ _ => pts_nil) (fun _ _ _ _ _ => (pe_cmpR (op_inA K) (pv 2) (C8.pe_gc rfl g_SMALL) (by rfl)))) pa_nil))))))), ?_⟩
  cases hd with
  | lst s r => walk_at "rd"; refine r_isi_lst_str s ?_; walk_at "rx"; exact k _ (Evl.Ex.refl _)
  | tup s r => walk_at "rd"; refine r_isi_tup_str s ?_; walk_at "rx"; exact k _ (Evl.Ex.refl _)
  | str z =>
    have hz := (fit_str hf).1
    walk_at "rx"
    refine r_lenS (by rw [sizeLine_eq]; omega) ?_
    walk_at "rx"
    refine iteD (fun h1 => ?_) (fun h1 => ?_)
    · walk_at "rx"
      refine .inr (.inr ⟨z, rfl, ?_⟩)
      intro D hD
      refine lc_str (z := z) hD (fun c => .bl (decide (c ∈ smallL))) ?_ ?_ ?_ ?_
      · exact fun _ => rfl
      · omega
      · intro c hc H' e1 Q' q
        walk_at "rd"
        rw [smallE]
        exact q _ (Evl.Ex.refl _)
      · intro H' e1 hD2
        walk_at "rd"
        refine r_all (bs := z.cps.toList.map fun c => decide (c ∈ smallL)) (by rw [hD2, List.map_map]; rfl) ?_
        have := k _ e1
        rw [isWordD, isWordS, decide_eq_true h1, Bool.true_and] at this
        rw [List.all_map]
        exact this
    · walk_at "rx"
      have := k _ (Evl.Ex.refl _)
      rw [isWordD, isWordS, decide_eq_false h1, Bool.false_and] at this
      exact this
  | _ => walk_at "rx"; exact k _ (Evl.Ex.refl _)
theorem c_is_word_2 (F : AtD K mg "is_word" s_is_word [.int 30] []) (B : Bl mg) (g_SMALL : ∃ u, mg "SMALL" = some u ∧ RelV (.str "abcdefghijklmnopqrstuvwxyz") u) : CalD P w K mg base 1 "is_word" (spWordP K) [] := by
  refine calD_of (dvs := [.int 30]) F sc_is_word (fun vs H Q E h => ?_) (fun f cdv A outer s H vs Q E hr h => b_is_word B g_SMALL hr h) 2 1 (by simp) rfl (fun T kV doc pm an cdv ct us its h1 h2 => ?_)
  · obtain ⟨v, d, m, rfl, _⟩ := h
    rfl
  · match us, h1, its, h2 with
    | [_, _], _, [_], _ => exact ⟨_, rfl, rfl⟩
theorem c_is_word_1 (F : AtD K mg "is_word" s_is_word [.int 30] []) (B : Bl mg) (g_SMALL : ∃ u, mg "SMALL" = some u ∧ RelV (.str "abcdefghijklmnopqrstuvwxyz") u) : CalD P w K mg base 1 "is_word" (spWordP K) [.int 30] := by
  refine calD_of (dvs := [.int 30]) F sc_is_word (fun vs H Q E h => ?_) (fun f cdv A outer s H vs Q E hr h => b_is_word B g_SMALL hr h) 1 0 (by simp) rfl (fun T kV doc pm an cdv ct us its h1 h2 => ?_)
  · obtain ⟨v, d, m, rfl, _⟩ := h
    rfl
  · match us, h1, its, h2 with
    | [_], _, [_], _ => exact ⟨_, rfl, rfl⟩
end

abbrev s_is_name : Stmt := top 9
abbrev N_is_name : List Str := ["thing"]
theorem sc_is_name : FnScope N_is_name ["thing"] (defScope s_is_name) := ⟨rfl, rfl, rfl, by decide +kernel, rfl, by decide +kernel, by decide +kernel⟩
section
variable {P : Program} {w : World} {K : PySem.W.Frag} {mg : Str → Option Value} {base : Heap}
theorem any_flat (l : List Str) : (l.map V.str).all flatV = true := by
  rw [List.all_eq_true]
  intro v hv
  obtain ⟨z, _, rfl⟩ := List.mem_map.mp hv
  rfl
theorem in_strs (z : Str) : ∀ l : List Str, inV (.str z) (l.map V.str) = l.any fun k => decide (tl k = tl z)
  | [] => rfl
  | k :: r => by
    have h := in_strs z r
    unfold inV at h ⊢
    rw [List.map_cons, List.any_cons, List.any_cons, h]
    congr 1
    show eqV (.str k) (.str z) = _
    unfold eqV
    first
      | exact decide_eq_decide.mpr (by rw [tl_inj])
      | (by_cases e : k = z
         · subst e; simp
         · have : ¬ tl k = tl z := fun q => e (tl_ext q)
           simp [e, this])
theorem c_is_name_ (F : At K mg "is_name" s_is_name) (B : Bl mg) (c_is_word_2 : CalD P w K mg base 1 "is_word" (spWordP K) []) {a : Addr} (g_KEYWORDS : ∃ u, mg "KEYWORDS" = some u ∧ RelV (.ref a) u) (hK : ∀ H, SqT K H a (kwS.map V.str)) : Cal P w K mg base 2 "is_name" (spB1 K isNameD) := by
  refine cal_of F sc_is_name (fun vs H Q E h => ?_) (fun _ _ _ _ _ _ us hl => match us, hl with | [_], _ => rfl) (fun f cdv A outer s H vs Q E hr h => ?_)
  · obtain ⟨v, d, rfl, _⟩ := h
    rfl
  · obtain ⟨v, d, rfl, hd, hf, k⟩ := h
    refine ⟨_, (pss_one (ps_ret (pe_and (pe_cD c_is_word_2 hr (by omega) rfl (pa_cons (pv 0) (pa_cons pe_int pa_nil))) (pe_and (pe_cmpR (op_neA K hr.units) (pv 0) pe_str (nomark _)) (pe_one (pe_cmpR (op_notInA K) (pv 0) (C8.pe_gc rfl g_KEYWORDS) (by rfl))))))), ?_⟩
    walk_at "rd"
    refine ⟨v, d, 12, rfl, hd, hf, fun H1 e1 => ?_⟩
    cases hd with
    | str z =>
      replace k : ∀ H', Evl.Ex H H' → Q (.bl (isWordL (tl z) 12 && (decide (tl z ≠ []) && !(kwS.any fun k => decide (tl k = tl z))))) H' := k
      have e : isWordD 12 (.str z) = isWordL (tl z) 12 := isWordS_L z 12
      rw [e]
      walk_at "rd"
      refine iteB (fun h1 => ?_) (fun h1 => ?_)
      · rw [h1, Bool.true_and] at k
        walk_at "rd"
        refine iteND (fun h2 => ?_) (fun h2 => ?_)
        · rw [decide_eq_true (show tl z ≠ [] from fun e => h2 (by rw [tl_ext (y := "") (e.trans (by decide +kernel))])), Bool.true_and] at k
          walk_at "rd"
          refine .inr ⟨a, _, rfl, .inr (hK _), rfl, any_flat kwS, ?_⟩
          rw [in_strs]
          exact k _ e1
        · rw [decide_eq_false (show ¬ tl z ≠ [] from fun e => e (by injection h2 with h2; rw [h2]; decide +kernel)), Bool.false_and] at k
          walk_at "rd"
          exact k _ e1
      · rw [h1, Bool.false_and] at k
        walk_at "rd"
        exact k _ e1
    | _ => walk_at "rx"; exact k _ e1
end

abbrev s_is_number : Stmt := top 5
abbrev N_is_number : List Str := ["thing"]
theorem sc_is_number : FnScope N_is_number ["thing"] (defScope s_is_number) := ⟨rfl, rfl, rfl, by decide +kernel, rfl, by decide +kernel, by decide +kernel⟩
section
variable {P : Program} {w : World} {K : PySem.W.Frag} {mg : Str → Option Value} {base : Heap}
theorem c_is_number (F : At K mg "is_number" s_is_number) (B : Bl mg) : Cal P w K mg base 1 "is_number" (spB1 K isIntD) := by
  refine cal_of F sc_is_number (fun vs H Q E h => ?_) (fun _ _ _ _ _ _ us hl => match us, hl with | [_], _ => rfl) (fun f cdv A outer s H vs Q E hr h => ?_)
  · obtain ⟨v, d, rfl, _⟩ := h
    rfl
  · obtain ⟨v, d, rfl, hd, hf, k⟩ := h
    refine ⟨_, (pss_one (ps_ret (pe_and (pe_callB (call_isinstanceA K) rfl B.isinstance (by decide +kernel) (pa_cons (pv 0) (pa_cons (pe_bltn (v := .ty "int") rfl B.int (by decide +kernel) rfl) pa_nil))) (pe_one (pe_not (pe_callB (call_isinstanceA K) rfl B.isinstance (by decide +kernel) (pa_cons (pv 0) (pa_cons (pe_bltn (v := .ty "bool") rfl B.bool (by decide +kernel) rfl) pa_nil)))))))), ?_⟩
    cases hd with
    | lst s r => walk_at "rd"; refine r_isi_lst_int s ?_; walk_at "rx"; exact k _ (Evl.Ex.refl _)
    | tup s r => walk_at "rd"; refine r_isi_tup_int s ?_; walk_at "rx"; exact k _ (Evl.Ex.refl _)
    | _ => walk_at "rx"; exact k _ (Evl.Ex.refl _)
end

abbrev s_is_constant : Stmt := top 10
abbrev N_is_constant : List Str := ["thing"]
theorem sc_is_constant : FnScope N_is_constant ["thing"] (defScope s_is_constant) := ⟨rfl, rfl, rfl, by decide +kernel, rfl, by decide +kernel, by decide +kernel⟩
def spCn (K : PySem.W.Frag) : Sp := fun vs H Q _ => ∃ (v : V) (d : PyData), vs = [v] ∧ Dp K H v d ∧ fit d = true ∧ ∀ H', Evl.Ex H H' → Q (.bl (isCnst v)) H'
theorem abs_lt {i : Int} : decide ((if i < 0 then -i else i) < 10 ^ 30) = decide (i.natAbs < 10 ^ 30) := by
  refine decide_eq_decide.mpr ?_
  split <;> omega
section
variable {P : Program} {w : World} {K : PySem.W.Frag} {mg : Str → Option Value} {base : Heap}
theorem c_is_constant_ (F : At K mg "is_constant" s_is_constant) (B : Bl mg) (c_is_number : Cal P w K mg base 1 "is_number" (spB1 K isIntD)) (c_is_word_2 : CalD P w K mg base 1 "is_word" (spWordP K) []) : Cal P w K mg base 2 "is_constant" (spCn K) := by
  refine cal_of F sc_is_constant (fun vs H Q E h => ?_) (fun _ _ _ _ _ _ us hl => match us, hl with | [_], _ => rfl) (fun f cdv A outer s H vs Q E hr h => ?_)
  · obtain ⟨v, d, rfl, _⟩ := h
    rfl
  · obtain ⟨v, d, rfl, hd, hf, k⟩ := h
    refine ⟨_, (pss_one (ps_ret (pe_or (pe_cmpR op_isA (pv 0) pe_non (nomark _)) (pe_or (pe_and (pe_cA c_is_number hr (by omega) rfl (pa_cons (pv 0) pa_nil)) (pe_one (pe_cmpR op_ltA (pe_callB call_absA rfl B.abs (by decide +kernel) (pa_cons (pv 0) pa_nil)) (pe_op op_pow pe_int pe_int) (nomark _)))) (pe_one (pe_cD c_is_word_2 hr (by omega) rfl (pa_cons (pv 0) (pa_cons pe_int pa_nil)))))))), ?_⟩
    cases hd with
    | non => walk_at "rx"; exact k _ (Evl.Ex.refl _)
    | int i =>
      walk_at "rx"
      refine ⟨_, _, rfl, .int i, hf, fun H1 e1 => ?_⟩
      walk_at "rx"
      have e : isCnst (.int i) = decide ((if i < 0 then -i else i) < 10 ^ 30) := abs_lt.symm
      rw [e] at k
      refine iteD (fun h1 => ?_) (fun h1 => ?_)
      · have h1 : (if i < 0 then -i else i) < (10 : Int) ^ 30 := h1
        rw [decide_eq_true h1] at k
        walk_at "rx"
        exact k _ e1
      · have h1 : ¬ (if i < 0 then -i else i) < (10 : Int) ^ 30 := h1
        rw [decide_eq_false h1] at k
        walk_at "rx"
        refine ⟨_, _, _, rfl, .int i, hf, fun H2 e2 => k _ (e1.trans e2)⟩
    | bl b =>
      walk_at "rx"
      refine ⟨_, _, rfl, .bl b, hf, fun H1 e1 => ?_⟩
      walk_at "rx"
      refine ⟨_, _, _, rfl, .bl b, hf, fun H2 e2 => k _ (e1.trans e2)⟩
    | str z =>
      walk_at "rx"
      refine ⟨_, _, rfl, .str z, hf, fun H1 e1 => ?_⟩
      walk_at "rx"
      refine ⟨_, _, _, rfl, .str z, hf, fun H2 e2 => k _ (e1.trans e2)⟩
    | lst s r =>
      walk_at "rx"
      refine ⟨_, _, rfl, .lst s r, hf, fun H1 e1 => ?_⟩
      walk_at "rx"
      refine ⟨_, _, _, rfl, Dp.mono e1 (.lst s r), hf, fun H2 e2 => k _ (e1.trans e2)⟩
    | tup s r =>
      walk_at "rx"
      refine ⟨_, _, rfl, .tup s r, hf, fun H1 e1 => ?_⟩
      walk_at "rx"
      refine ⟨_, _, _, rfl, Dp.mono e1 (.tup s r), hf, fun H2 e2 => k _ (e1.trans e2)⟩
end

abbrev s_constant_text : Stmt := top 11
abbrev N_constant_text : List Str := ["value"]
theorem sc_constant_text : FnScope N_constant_text ["value"] (defScope s_constant_text) := ⟨rfl, rfl, rfl, by decide +kernel, rfl, by decide +kernel, by decide +kernel⟩
def spCText0 : Sp := fun vs H Q _ => ∃ v, vs = [v] ∧ Cst v ∧ Q (.str (cstS v)) H
section
variable {P : Program} {w : World} {K : PySem.W.Frag} {mg : Str → Option Value} {base : Heap}
theorem quoteE3 : ("\"" : Str) = ⟨#[34]⟩ := by decide +kernel
theorem c_constant_text_ (F : At K mg "constant_text" s_constant_text) (B : Bl mg) : Cal P w K mg base 1 "constant_text" spCText0 := by
  refine cal_of F sc_constant_text (fun vs H Q E h => ?_) (fun _ _ _ _ _ _ us hl => match us, hl with | [_], _ => rfl) (fun f cdv A outer s H vs Q E hr h => ?_)
  · obtain ⟨v, rfl, _⟩ := h
    rfl
  · obtain ⟨v, rfl, hv, k⟩ := h
    refine ⟨_, (pss_cons (ps_if (pt_cmpR op_isA (pv 0) pe_non (nomark _))
   (pss_one (ps_ret pe_str))
   pss_nil)
  (pss_cons (ps_if (pt_val (pe_callB (call_isinstanceA K) rfl B.isinstance (by decide +kernel) (pa_cons (pv 0) (pa_cons (pe_bltn (v := .ty "str") rfl B.str (by decide +kernel) rfl) pa_nil))))
   (pss_one (ps_ret (pe_op (op_addA K) (pe_op (op_addA K) pe_str (pv 0)) pe_str)))
   pss_nil)
  (pss_one (ps_ret (pe_callTy call_strA rfl B.str (by decide +kernel) (pa_cons (pv 0) pa_nil)))))), ?_⟩
    cases v with
    | non => walk_at "rx"; exact k
    | int i =>
      have hv : i.natAbs < 10 ^ 30 := hv
      walk_at "rx"
      refine r_str (Nat.lt_trans hv (by decide)) ?_
      exact k
    | str z =>
      have hv : Word 8 z := hv
      have h1 := hv.1
      walk_at "rx"
      rw [quoteE3]
      refine r_addS (by rw [sizeLine_eq]; show 1 + z.length ≤ _; omega) ?_
      walk_at "rx"
      refine r_addS ?_ ?_
      · rw [sizeLine_eq, ← tl_length, tl_app, List.length_append, tl_length]
        show 1 + z.length + 1 ≤ _
        omega
      · exact k
    | _ => exact hv.elim
end

end WP

set_option Elab.async false
set_option linter.all false
set_option maxRecDepth 100000
set_option maxHeartbeats 4000000
namespace WP
open PySem PySem.Spec PyProof.Rows L2
local macro_rules | `(tactic| walk_at "rd") => `(tactic| repeat (first
  | with_reducible refine r_seq ?_ | with_reducible refine r_par3 ?_ | with_reducible refine r_callR ?_ | with_reducible refine r_callS ?_ | with_reducible refine r_enumA ?_ | with_reducible refine r_mkO ?_ | with_reducible refine r_raise ?_ | with_reducible refine r_callW ?_ | with_reducible refine r_tru ?_ | with_reducible refine r_var rfl ?_ | with_reducible refine r_c ?_ | with_reducible refine r_op ?_ | with_reducible refine r_cons ?_ | with_reducible refine r_nil ?_
  | with_reducible refine r_cb ?_ | with_reducible refine r_call ?_ | with_reducible refine r_test ?_ | with_reducible refine r_B ?_ | with_reducible refine r_bl ?_ | with_reducible refine r_asg ?_ | with_reducible refine r_asgS ?_
  | with_reducible refine r_ret ?_ | with_reducible refine r_drop ?_ | with_reducible refine r_ifS ?_ | with_reducible refine r_if ?_ | with_reducible refine r_and ?_ | with_reducible refine r_or ?_ | with_reducible refine r_not ?_
  | with_reducible refine r_andV ?_ | with_reducible refine r_orV ?_ | with_reducible refine r_notV ?_ | with_reducible refine r_chain ?_ | with_reducible refine r_sl ?_ | with_reducible refine r_nopart ?_ | with_reducible refine r_part ?_
  | with_reducible refine r_intO ?_ | with_reducible refine r_two ?_ | with_reducible refine r_m1 ?_ | with_reducible refine r_bm ?_ | with_reducible refine r_next ?_ | with_reducible refine r_gCons ?_ | with_reducible refine r_gNil ?_ | with_reducible refine r_asgT ?_ | with_reducible refine r_for ?_ | with_reducible refine r_rng1 ?_ | with_reducible refine r_iList ?_ | with_reducible refine r_iAny ?_ | with_reducible refine r_lc ?_ | with_reducible refine r_yes ?_ | with_reducible refine r_gN ?_ | with_reducible refine r_par ?_ | with_reducible refine r_un ?_ | with_reducible refine r_brk ?_ | with_reducible refine r_cont ?_
  | with_reducible refine r_I0 ?_ | with_reducible refine r_U ?_ | with_reducible refine r_addI ?_ | with_reducible refine r_abs ?_ | with_reducible refine r_intI ?_ | with_reducible refine r_max2 ?_ | with_reducible refine r_min2 ?_
  | with_reducible refine r_ltI ?_ | with_reducible refine r_leI ?_ | with_reducible refine r_gtI ?_ | with_reducible refine r_geI ?_ | with_reducible refine r_isN_non ?_ | with_reducible refine r_isN_int ?_ | with_reducible refine r_isN_str ?_ | with_reducible refine r_isN_bl ?_ | with_reducible refine r_isN_ref ?_ | with_reducible refine r_isN ?_ | with_reducible refine r_isB ?_ | with_reducible refine r_isnotN_non ?_ | with_reducible refine r_isnotN_int ?_ | with_reducible refine r_isnotN_str ?_ | with_reducible refine r_isnotN_bl ?_ | with_reducible refine r_isnotN_ref ?_ | with_reducible refine r_isnotN ?_ | with_reducible refine r_isnotB ?_
  | with_reducible refine r_inS ?_ | with_reducible refine r_eqS rfl ?_ | with_reducible refine r_neS rfl ?_ | with_reducible refine r_lst ?_ | with_reducible refine r_tup ?_ | with_reducible refine iteT ?_ | with_reducible refine iteF ?_))
local macro_rules | `(tactic| walk_at "isi") => `(tactic| (first
  | with_reducible refine r_isi_non_int ?_
  | with_reducible refine r_isi_non_str ?_
  | with_reducible refine r_isi_non_list ?_
  | with_reducible refine r_isi_non_tuple ?_
  | with_reducible refine r_isi_non_bool ?_
  | with_reducible refine r_isi_bl_int ?_
  | with_reducible refine r_isi_bl_str ?_
  | with_reducible refine r_isi_bl_list ?_
  | with_reducible refine r_isi_bl_tuple ?_
  | with_reducible refine r_isi_bl_bool ?_
  | with_reducible refine r_isi_int_int ?_
  | with_reducible refine r_isi_int_str ?_
  | with_reducible refine r_isi_int_list ?_
  | with_reducible refine r_isi_int_tuple ?_
  | with_reducible refine r_isi_int_bool ?_
  | with_reducible refine r_isi_str_int ?_
  | with_reducible refine r_isi_str_str ?_
  | with_reducible refine r_isi_str_list ?_
  | with_reducible refine r_isi_str_tuple ?_
  | with_reducible refine r_isi_str_bool ?_
  | with_reducible refine r_isi_lst_int (SqL.of (by assumption)) ?_
  | with_reducible refine r_isi_lst_str (SqL.of (by assumption)) ?_
  | with_reducible refine r_isi_lst_list (SqL.of (by assumption)) ?_
  | with_reducible refine r_isi_lst_tuple (SqL.of (by assumption)) ?_
  | with_reducible refine r_isi_lst_bool (SqL.of (by assumption)) ?_
  | with_reducible refine r_isi_tup_int (SqT.of (by assumption)) ?_
  | with_reducible refine r_isi_tup_str (SqT.of (by assumption)) ?_
  | with_reducible refine r_isi_tup_list (SqT.of (by assumption)) ?_
  | with_reducible refine r_isi_tup_tuple (SqT.of (by assumption)) ?_
  | with_reducible refine r_isi_tup_bool (SqT.of (by assumption)) ?_))
local macro_rules | `(tactic| walk_at "rs") => `(tactic| (first
  | ((with_reducible refine iteTc ?hc ?_); (case hc => rfl)) | ((with_reducible refine iteFc ?hc ?_); (case hc => rfl))
  | walk_at "isi"
  | refine r_ixL (SqL.of (by assumption)) rfl ?_ | refine r_ixL (SqL.of upd_same) rfl ?_
  | refine r_I (C := fun _ j => 0 < j) (by first | decide | assumption | omega) ?_
  | refine r_mulI (.inl ⟨by decide, by decide⟩) ?_ | refine r_mulI (.inr ⟨by decide, by decide⟩) ?_ | refine r_mulI (.inr ⟨by omega, by omega⟩) ?_ | refine r_mulI (.inl ⟨by omega, by omega⟩) ?_
  | refine r_I (wide_div (b := 64) (by decide) (by decide) (by decide) (by decide)) ?_
  | refine r_I (C := CPow) ⟨by decide, by decide, by decide⟩ ?_
  | refine r_setL (by assumption) rfl ?_ | refine r_setL upd_same rfl ?_))
local macro_rules | `(tactic| walk_at "rx") => `(tactic| (walk_at "rd"; (repeat (walk_at "rs"; walk_at "rd"))))

abbrev s_BadCall_init : Stmt := inClass (top 2) 0
abbrev s_call_text : Stmt := top 12
abbrev N_call_text : List Str := ["name", "values", "at", "value"]
theorem sc_call_text : FnScope N_call_text ["name", "values"] (defScope s_call_text) := ⟨rfl, rfl, rfl, by decide +kernel, rfl, by decide +kernel, by decide +kernel⟩
def spCt (K : PySem.W.Frag) (C : Addr) : Sp := fun vs H Q E => ∃ (nm : V) (d : PyData) (p : Addr) (xs : List V) (ds : List PyData), vs = [nm, .ref p] ∧ Dp K H nm d ∧ fit d = true ∧ H p = some (.tup xs) ∧ DpAll K H xs ds ∧ fitAll ds = true ∧ xs.length ≤ 5 ∧
  (isNameD d = false → ∀ (H' : Hp) (dd : Addr), Evl.Ex H H' → H' dd = none → E (.ref C) (some dd) (upd H' dd (.xd [("at", .int (-1))]))) ∧
  (isNameD d = true → ∀ k : Nat, dueFrom 0 xs = some k → ∀ (H' : Hp) (dd : Addr), Evl.Ex H H' → H' dd = none → E (.ref C) (some dd) (upd H' dd (.xd [("at", .int k)]))) ∧
  (isNameD d = true → dueFrom 0 xs = none → ∀ (z n : Str) (H' : Hp), nm = .str n → tl z = tl n ++ 40 :: (TL.joinL sep (xs.map cstL) ++ [41]) → Evl.Ex H H' → Q (.str z) H')
section
variable {P : Program} {w : World} {K : PySem.W.Frag} {mg : Str → Option Value} {base : Heap} {C : Addr}
theorem e_badcall {f : Addr} (T : ExcT P K mg "BadCall" "BadCall.__init__" s_BadCall_init C f) (hm : mg "super" = none) (hno : PySem.W.findIn K (.ref C) "at" = some none) : CalE P w K mg base 1 "BadCall" C (spInit1 "at" K C) := by
  obtain ⟨oc, od, kV, doc, pm, an, c, cc, ct, osl, lk, hcd, U⟩ := T.fn
  refine ⟨f, _, ["self", "at"], T.T, T.iC, T.tI, fn_sup (D := C) (k := 0) (N := ["self", "at", "__class__"]) (ps := ["self", "at"]) lk hcd (NdefX.nscope_by (by decide +kernel)) hm rfl rfl rfl rfl (fun env => ⟨_, rfl⟩) (fun vs H Q E h => ?_) (fun A outer s H vs Q E h => ?_), Binds.all (fun us hl => match us, hl with | [_, _], _ => rfl), T.gC⟩
  · obtain ⟨a, v, rfl, _⟩ := h
    rfl
  · obtain ⟨a, v, rfl, ha, k⟩ := h
    refine ⟨⟨a, C, [v], rfl, T.T, U, ha⟩, _, pss_one (ps_ost (pv 0) (pv 1)), ?_⟩
    exact r_var rfl (r_var rfl ⟨a, C, rfl, T.T, hno, .inl ⟨ha, fun dx h1 h2 => k dx h1 h2⟩⟩)
theorem sepE8 : TL.tl (", " : Str) = sep := by decide +kernel
theorem sum_le8 : ∀ {xs : List V}, (∀ v ∈ xs, Cst v) → ((xs.map fun v => cstS v).map (·.length)).sum ≤ xs.length * 40
  | [], _ => by simp
  | v :: r, h => by
    have h1 := cst_len (h v (List.mem_cons_self ..))
    unfold cstL at h1
    rw [tl_length] at h1
    have h2 := sum_le8 (xs := r) fun u hu => h u (List.mem_cons_of_mem _ hu)
    rw [List.map_cons, List.map_cons, List.sum_cons, List.length_cons]
    omega
theorem DpAll.getV {H : Hp} {vs : List V} {ds : List PyData} (h : DpAll K H vs ds) {i : Nat} {v : V} (e : vs[i]? = some v) : ∃ d ∈ ds, Dp K H v d := by
  obtain ⟨d, h1, h2⟩ := DpAll.get h e
  exact ⟨d, List.mem_of_getElem? h1, h2⟩
theorem c_call_text_r (F : At K mg "call_text" s_call_text) (B : Bl mg) (c_is_name : Cal P w K mg base 2 "is_name" (spB1 K isNameD)) (c_is_constant : Cal P w K mg base 2 "is_constant" (spCn K)) (c_constant_text : Cal P w K mg base 1 "constant_text" spCText0) (e_BadCall : CalE P w K mg base 1 "BadCall" C (spInit1 "at" K C)) :
    CalR P w K mg base 3 "call_text" (fun vs H Q E => ∃ ws rest, vs = ws ++ rest ∧ ws.length = ["name"].length ∧ rest.length ≤ sizeLine ∧ ∀ p, H p = Option.none → spCt K C (ws ++ [V.ref p]) (upd H p (.tup rest)) Q E) := by
  refine calR_of (ps := ["name"]) (pv := "values") F sc_call_text (fun kV doc pm an cdv ct us rest hl => ?_) (fun f cdv A outer s H vs Q E hr h => ?_)
  · match us, hl, rest with
    | [_], _, [] => rfl
    | [_], _, _ :: _ => rfl
  · obtain ⟨nm, d, p, xs, ds, rfl, hd, hf, hp, hds, hfs, hl, k1, k2, k3⟩ := h
    have tk : Takes (cxOf (L2.CX P w) P w K mg base N_call_text "call_text" (defScope s_call_text) f cdv A outer s H E) (fun cls d _ H => E cls d H) := takes_of rfl rfl rfl rfl
    refine ⟨_, (pss_cons (ps_if (pt_not (pt_val (pe_cA c_is_name hr (by omega) rfl (pa_cons (pv 0) pa_nil))))
   (pss_one (ps_raiseA rfl tk (pmk_exc e_BadCall hr (by omega) rfl (pa_cons (pe_un un_neg pe_int) pa_nil))))
   pss_nil)
  (pss_cons (ps_for (passes_of rfl) rfl (pi_enumA K rfl B.enumerate (pa_cons (pv 1) pa_nil)) (pg_tupA K (n := 2) (pg_tup rfl (pgs_cons (pg_name (i := 2) sc_call_text.nd rfl (Or.inl rfl)) (pgs_cons (pg_name (i := 3) sc_call_text.nd rfl (Or.inl rfl)) pgs_nil))))
   (pss_one (ps_if (PW.pt (pw_or (pt_cmpR (op_eqA K hr.units) (pv 2) pe_int (nomark _)) (pw_or1 (pt_not (pt_val (pe_cA c_is_constant hr (by omega) rfl (pa_cons (pv 3) pa_nil)))))))
   (pss_one (ps_raiseA rfl tk (pmk_exc e_BadCall hr (by omega) rfl (pa_cons (pv 2) pa_nil))))
   pss_nil)))
  (pss_one (ps_ret (pe_op (op_addA K) (pe_op (op_addA K) (pe_op (op_addA K) (pv 0) pe_str) (pe_joinA K pe_str (pe_lc (own := [("value", 3)]) rfl sc_call_text.nd (pi_any K (pv 1)) (blkOk_by (N := N_call_text) (sc := defScope s_call_text) (by decide +kernel)) (fun _ _ _ _ _ => (pg_name (i := 3) sc_call_text.nd rfl (Or.inl rfl))) (fun _ _ _ _ _ => pts_nil) (fun _ _ _ _ _ => (pe_cA c_constant_text hr (by omega) rfl (pa_cons (pv 3) pa_nil)))))) pe_str))))), ?_⟩
    walk_at "rd"
    refine ⟨_, d, rfl, hd, hf, fun H1 e1 => ?_⟩
    walk_at "rd"
    refine iteNB (fun h1 => ?_) (fun h1 => ?_)
    · walk_at "rd"
      exact mk1 fun dd hdd => k1 h1 _ _ e1 hdd
    · walk_at "rd"
      replace k2 := k2 h1
      replace k3 := k3 h1
      refine ⟨p, xs, rfl, .inl ⟨SqT.of (e1 _ _ hp), for_it (walk_enumT (xs := xs)) (fun i σ H' => Evl.Ex H H' ∧ dueFrom 0 xs = dueFrom i (xs.drop i) ∧ ∃ w2 w3 : Option V, σ = [some nm, some (.ref p), w2, w3]) ?_ ?_ ?_ ?_⟩⟩
      · exact ⟨e1, rfl, _, _, rfl⟩
      · rintro i σ H' _ ⟨e, _⟩
        exact SqT.of (e _ _ hp)
      · rintro i y σ H2 H3 hi ⟨e2, hdue, w2, w3, rfl⟩ ⟨q, x, rfl, hq, rfl, hx⟩
        have e3 := e2.trans (Evl.Ex.new (o := .tup [.int (i : Nat), x]) hq)
        have hx2 : xs.getD i .non = x := by rw [List.getD_eq_getElem?_getD, hx]; rfl
        rw [due_step hi, hx2] at hdue
        refine r_gTup (SqT.of upd_same) rfl ?_
        generalize upd H2 q (HO.tup _) = H3 at e3 ⊢
        walk_at "rd"
        refine iteD (fun h2 => ?_) (fun h2 => ?_)
        · have h2 : i = 3 := by injection h2 with h2; omega
          rw [if_pos h2] at hdue
          walk_at "rd"
          exact mk1 fun dd hdd => k2 i hdue _ _ e3 hdd
        · have h2 : ¬ i = 3 := fun e => h2 (by rw [e]; rfl)
          rw [if_neg h2] at hdue
          walk_at "rd"
          obtain ⟨dx, hdm, hdx⟩ := DpAll.getV hds hx
          refine ⟨_, dx, rfl, Dp.mono e3 hdx, fitAll_mem hfs hdm, fun H4 e4 => ?_⟩
          walk_at "rd"
          refine iteNB (fun h3 => ?_) (fun h3 => ?_)
          · rw [h3] at hdue
            walk_at "rd"
            exact mk1 fun dd hdd => k2 i hdue _ _ (e3.trans e4) hdd
          · rw [h3] at hdue
            walk_at "rd"
            exact ⟨e3.trans e4, hdue, _, _, rfl⟩
      · rintro σ H2 ⟨e2, hdue, w2, w3, rfl⟩
        rw [List.drop_length] at hdue
        have hdue : dueFrom 0 xs = none := hdue
        obtain ⟨hc, hl3⟩ := due_none hdue (by omega)
        have hc : ∀ v ∈ xs, Cst v := fun v hv => cst_of (hc v hv)
        cases hd with
        | str n =>
          obtain ⟨n1, n2, n3⟩ := name_small (t := tl n) h1
          rw [tl_length] at n2
          walk_at "rd"
          refine r_addS (by rw [sizeLine_eq]; show n.length + 1 ≤ _; omega) ?_
          walk_at "rd"
          refine ⟨⟨_, rfl⟩, ?_⟩
          walk_at "rd"
          refine .inr (.inl ⟨p, rfl, ⟨_, SqT.of (e2 _ _ hp)⟩, ?_⟩)
          intro D hD
          refine lc_tupl (K := K) (a := p) hD (fun v => .str (cstS v)) (SqT.of (e2 _ _ hp)) ?_ ?_ ?_ ?_
          · exact fun _ => rfl
          · omega
          · intro v hv H' e1 Q' q
            walk_at "rd"
            exact ⟨v, rfl, hc v hv, q _ (Evl.Ex.refl _)⟩
          · intro H3 e3 hD2
            have hsum := sum_le8 hc
            have hcl : (", " : Str).length = 2 := by decide +kernel
            refine ⟨_, D, xs.map cstS, rfl, rfl, .inl (SqL.of (by rw [hD2, List.map_map]; rfl)), ?_, ?_⟩
            · rw [List.length_map, hcl]
              have : ((xs.map cstS).map (·.length)).sum ≤ xs.length * 40 := hsum
              omega
            · have ej : tl (Txt.join (", " : Str) (xs.map cstS)) = TL.joinL sep (xs.map cstL) := by
                rw [TL.join_eq]
                refine (TL.tl_join _ _).trans ?_
                rw [sepE8, List.map_map]
                rfl
              have hjl : (Txt.join (", " : Str) (xs.map cstS)).length ≤ xs.length * 42 := by
                rw [← tl_length, ej]
                have := join_len (m := 40) (parts := xs.map cstL) fun p hp => by
                  obtain ⟨v, hv, rfl⟩ := List.mem_map.mp hp
                  exact cst_len (hc v hv)
                rw [List.length_map] at this
                exact this
              have hp1 : (n ++ ("(" : Str)).length = n.length + 1 := by
                rw [← tl_length, tl_app, List.length_append, tl_length]
                rfl
              refine r_addS (by rw [sizeLine_eq, hp1]; omega) ?_
              walk_at "rx"
              refine r_addS ?_ ?_
              · rw [sizeLine_eq, ← tl_length, tl_app, List.length_append, tl_length, tl_length, hp1]
                show _ + 1 ≤ _
                omega
              · refine k3 hdue _ _ _ rfl ?_ (e2.trans e3)
                rw [tl_app, tl_app, tl_app, ej]
                rw [show tl ("(" : Str) = [40] by decide +kernel, show tl (")" : Str) = [41] by decide +kernel]
                simp
        | _ => cases h1
end
end WP

set_option Elab.async false
set_option linter.all false
set_option maxRecDepth 100000
set_option maxHeartbeats 4000000
namespace WP
open PySem PySem.Spec PyProof.Rows L2
local macro_rules | `(tactic| walk_at "rd") => `(tactic| repeat (first
  | with_reducible refine r_seq ?_ | with_reducible refine r_par3 ?_ | with_reducible refine r_callR ?_ | with_reducible refine r_callS ?_ | with_reducible refine r_enumA ?_ | with_reducible refine r_mkO ?_ | with_reducible refine r_raise ?_ | with_reducible refine r_callW ?_ | with_reducible refine r_tru ?_ | with_reducible refine r_var rfl ?_ | with_reducible refine r_c ?_ | with_reducible refine r_op ?_ | with_reducible refine r_cons ?_ | with_reducible refine r_nil ?_
  | with_reducible refine r_cb ?_ | with_reducible refine r_call ?_ | with_reducible refine r_test ?_ | with_reducible refine r_B ?_ | with_reducible refine r_bl ?_ | with_reducible refine r_asg ?_ | with_reducible refine r_asgS ?_
  | with_reducible refine r_ret ?_ | with_reducible refine r_drop ?_ | with_reducible refine r_ifS ?_ | with_reducible refine r_if ?_ | with_reducible refine r_and ?_ | with_reducible refine r_or ?_ | with_reducible refine r_not ?_
  | with_reducible refine r_andV ?_ | with_reducible refine r_orV ?_ | with_reducible refine r_notV ?_ | with_reducible refine r_chain ?_ | with_reducible refine r_sl ?_ | with_reducible refine r_nopart ?_ | with_reducible refine r_part ?_
  | with_reducible refine r_intO ?_ | with_reducible refine r_two ?_ | with_reducible refine r_m1 ?_ | with_reducible refine r_bm ?_ | with_reducible refine r_next ?_ | with_reducible refine r_gCons ?_ | with_reducible refine r_gNil ?_ | with_reducible refine r_asgT ?_ | with_reducible refine r_for ?_ | with_reducible refine r_rng1 ?_ | with_reducible refine r_iList ?_ | with_reducible refine r_iAny ?_ | with_reducible refine r_lc ?_ | with_reducible refine r_yes ?_ | with_reducible refine r_gN ?_ | with_reducible refine r_par ?_ | with_reducible refine r_un ?_ | with_reducible refine r_brk ?_ | with_reducible refine r_cont ?_
  | with_reducible refine r_I0 ?_ | with_reducible refine r_U ?_ | with_reducible refine r_addI ?_ | with_reducible refine r_abs ?_ | with_reducible refine r_intI ?_ | with_reducible refine r_max2 ?_ | with_reducible refine r_min2 ?_
  | with_reducible refine r_ltI ?_ | with_reducible refine r_leI ?_ | with_reducible refine r_gtI ?_ | with_reducible refine r_geI ?_ | with_reducible refine r_isN_non ?_ | with_reducible refine r_isN_int ?_ | with_reducible refine r_isN_str ?_ | with_reducible refine r_isN_bl ?_ | with_reducible refine r_isN_ref ?_ | with_reducible refine r_isN ?_ | with_reducible refine r_isB ?_ | with_reducible refine r_isnotN_non ?_ | with_reducible refine r_isnotN_int ?_ | with_reducible refine r_isnotN_str ?_ | with_reducible refine r_isnotN_bl ?_ | with_reducible refine r_isnotN_ref ?_ | with_reducible refine r_isnotN ?_ | with_reducible refine r_isnotB ?_
  | with_reducible refine r_inS ?_ | with_reducible refine r_eqS rfl ?_ | with_reducible refine r_neS rfl ?_ | with_reducible refine r_lst ?_ | with_reducible refine r_tup ?_ | with_reducible refine iteT ?_ | with_reducible refine iteF ?_))
local macro_rules | `(tactic| walk_at "isi") => `(tactic| (first
  | with_reducible refine r_isi_non_int ?_
  | with_reducible refine r_isi_non_str ?_
  | with_reducible refine r_isi_non_list ?_
  | with_reducible refine r_isi_non_tuple ?_
  | with_reducible refine r_isi_non_bool ?_
  | with_reducible refine r_isi_bl_int ?_
  | with_reducible refine r_isi_bl_str ?_
  | with_reducible refine r_isi_bl_list ?_
  | with_reducible refine r_isi_bl_tuple ?_
  | with_reducible refine r_isi_bl_bool ?_
  | with_reducible refine r_isi_int_int ?_
  | with_reducible refine r_isi_int_str ?_
  | with_reducible refine r_isi_int_list ?_
  | with_reducible refine r_isi_int_tuple ?_
  | with_reducible refine r_isi_int_bool ?_
  | with_reducible refine r_isi_str_int ?_
  | with_reducible refine r_isi_str_str ?_
  | with_reducible refine r_isi_str_list ?_
  | with_reducible refine r_isi_str_tuple ?_
  | with_reducible refine r_isi_str_bool ?_
  | with_reducible refine r_isi_lst_int (SqL.of (by assumption)) ?_
  | with_reducible refine r_isi_lst_str (SqL.of (by assumption)) ?_
  | with_reducible refine r_isi_lst_list (SqL.of (by assumption)) ?_
  | with_reducible refine r_isi_lst_tuple (SqL.of (by assumption)) ?_
  | with_reducible refine r_isi_lst_bool (SqL.of (by assumption)) ?_
  | with_reducible refine r_isi_tup_int (SqT.of (by assumption)) ?_
  | with_reducible refine r_isi_tup_str (SqT.of (by assumption)) ?_
  | with_reducible refine r_isi_tup_list (SqT.of (by assumption)) ?_
  | with_reducible refine r_isi_tup_tuple (SqT.of (by assumption)) ?_
  | with_reducible refine r_isi_tup_bool (SqT.of (by assumption)) ?_))
local macro_rules | `(tactic| walk_at "rs") => `(tactic| (first
  | ((with_reducible refine iteTc ?hc ?_); (case hc => rfl)) | ((with_reducible refine iteFc ?hc ?_); (case hc => rfl))
  | walk_at "isi"
  | refine r_ixL (SqL.of (by assumption)) rfl ?_ | refine r_ixL (SqL.of upd_same) rfl ?_
  | refine r_I (C := fun _ j => 0 < j) (by first | decide | assumption | omega) ?_
  | refine r_mulI (.inl ⟨by decide, by decide⟩) ?_ | refine r_mulI (.inr ⟨by decide, by decide⟩) ?_ | refine r_mulI (.inr ⟨by omega, by omega⟩) ?_ | refine r_mulI (.inl ⟨by omega, by omega⟩) ?_
  | refine r_I (wide_div (b := 64) (by decide) (by decide) (by decide) (by decide)) ?_
  | refine r_I (C := CPow) ⟨by decide, by decide, by decide⟩ ?_
  | refine r_setL (by assumption) rfl ?_ | refine r_setL upd_same rfl ?_))
local macro_rules | `(tactic| walk_at "rx") => `(tactic| (walk_at "rd"; (repeat (walk_at "rs"; walk_at "rd"))))

/-! ### the draws -/
def spTake : Sp := fun vs H Q _ => ∃ (b : Addr) (m : Int) (n : Nat), vs = [.ref b, .int m] ∧ Bag b n H ∧ n < 1000000000000 ∧ 0 < m ∧ m < 2 ^ 200 ∧
  ∀ (d : Int) (H' : Hp), 0 ≤ d → d < m → Drw b (n + 1) H H' → Q (.int d) H'
abbrev s_law_take : Stmt := top 14
abbrev N_law_take : List Str := ["_law_bag_here", "_law_many", "_law_digit", "_law_mixed"]
theorem sc_law_take : FnScope N_law_take ["_law_bag_here", "_law_many"] (defScope s_law_take) := ⟨rfl, rfl, rfl, by decide +kernel, rfl, by decide +kernel, by decide +kernel⟩
section
variable {P : Program} {w : World} {K : PySem.W.Frag} {mg : Str → Option Value} {base : Heap}
theorem c_take (F : At K mg "_law_take" s_law_take) (B : Bl mg) : Cal P w K mg base 1 "_law_take" spTake := by
  refine cal_of F sc_law_take (fun vs H Q E h => ?_) (fun _ _ _ _ _ _ us hl => match us, hl with | [_, _], _ => rfl) (fun f cdv A outer s H vs Q E hr h => ?_)
  · obtain ⟨b, m, n, rfl, _⟩ := h
    rfl
  · obtain ⟨b, m, n, rfl, ⟨l, hb, x, y, z, rfl, hy0, hy1, hz0, hz1⟩, hn, hm0, hm1, k⟩ := h
    refine ⟨_, (pss_cons (ps_if (pt_cmpR op_gtA (pe_ix (ix_A K) (pv 0) pe_int (fun _ _ => rfl)) pe_int (nomark _))
   (pss_cons (ps_set (i := 2) sc_law_take.nd rfl (Or.inl rfl) (pe_op op_mod (pe_callTy call_intA rfl B.int (by decide +kernel) (pa_cons (pe_ix (ix_A K) (pv 0) pe_int (fun _ _ => rfl)) pa_nil)) (pv 1)))
  (pss_cons (ps_asg (pe_op op_fdivW (pe_ix (ix_A K) (pv 0) pe_int (fun _ _ => rfl)) (pv 1)) (pg_sub (pv 0) pe_int set_list))
  (pss_one (ps_ret (pv 2)))))
   pss_nil)
  (pss_cons (ps_asg (pe_op (op_addA K) (pe_ix (ix_A K) (pv 0) pe_int (fun _ _ => rfl)) pe_int) (pg_sub (pv 0) pe_int set_list))
  (pss_cons (ps_set (i := 3) sc_law_take.nd rfl (Or.inl rfl) (pe_op op_mod (pe_callTy call_intA rfl B.int (by decide +kernel) (pa_cons (pe_op op_mulA (pe_op (op_addA K) (pe_ix (ix_A K) (pv 0) pe_int (fun _ _ => rfl)) (pe_op op_mulA pe_int (pe_ix (ix_A K) (pv 0) pe_int (fun _ _ => rfl)))) (pe_op (op_addA K) (pe_ix (ix_A K) (pv 0) pe_int (fun _ _ => rfl)) pe_int)) pa_nil)) pe_int))
  (pss_one (ps_ret (pe_op op_mod (pe_callTy call_intA rfl B.int (by decide +kernel) (pa_cons (pe_op op_fdivW (pe_op op_mod (pe_callTy call_intA rfl B.int (by decide +kernel) (pa_cons (pe_op op_pow (pe_op (op_addA K) (pv 3) (pe_op op_mulA pe_int (pe_ix (ix_A K) (pv 0) pe_int (fun _ _ => rfl)))) pe_int) pa_nil)) pe_int) pe_int) pa_nil)) (pv 1))))))), ?_⟩
    walk_at "rx"
    refine iteD (fun hx => ?_) (fun hx => ?_)
    · walk_at "rx"
      refine r_I (wide_div (b := 200) hm0 (by omega) (by decide) (by decide)) ?_
      walk_at "rx"
      exact k _ _ (Int.emod_nonneg _ (by omega)) (Int.emod_lt_of_pos _ hm0) ⟨by rw [hid_bag]; exact Evl.Ex.refl _, _, upd_same, _, y, z, rfl, hy0, hy1, hz0, by omega⟩
    · walk_at "rx"
      have h2 : 0 ≤ (y + 40009 * (z + 1)) * (y + 7919) % 2147483647 := Int.emod_nonneg _ (by decide)
      have h3 : (y + 40009 * (z + 1)) * (y + 7919) % 2147483647 < 2147483647 := Int.emod_lt_of_pos _ (by decide)
      refine r_I (C := CPow) ⟨by decide, by decide, ?_⟩ ?_
      · revert h2 h3
        generalize (y + 40009 * (z + 1)) * (y + 7919) % 2147483647 = q
        intro h2 h3
        omega
      walk_at "rx"
      exact k _ _ (Int.emod_nonneg _ (by omega)) (Int.emod_lt_of_pos _ hm0) ⟨by rw [hid_bag]; exact Evl.Ex.refl _, _, upd_same, x, y, z + 1, rfl, hy0, hy1, by omega, by omega⟩
end

section
variable {P : Program} {w : World} {K : PySem.W.Frag} {mg : Str → Option Value} {base : Heap}
/-! one of a list, a tuple, a text -/
def spOf (K : PySem.W.Frag) : Sp := fun vs H Q _ => ∃ (b : Addr) (v : V) (n : Nat), vs = [.ref b, v] ∧ Bag b n H ∧ n < 1000000000000 ∧
  ((∃ (a : Addr) (xs : List V), v = .ref a ∧ SqA K (hid b H) a xs ∧ 0 < xs.length ∧ xs.length ≤ 100000 ∧ ∀ y ∈ xs, ∀ H', Drw b (n + 1) H H' → Q y H') ∨
   (∃ z : Str, v = .str z ∧ 0 < z.length ∧ z.length ≤ 100000 ∧ ∀ c ∈ z.cps.toList, ∀ H', Drw b (n + 1) H H' → Q (.str ⟨#[c]⟩) H'))
abbrev s_law_of : Stmt := top 15
abbrev N_law_of : List Str := ["_law_bag_here", "_law_some"]
theorem sc_law_of : FnScope N_law_of ["_law_bag_here", "_law_some"] (defScope s_law_of) := ⟨rfl, rfl, rfl, by decide +kernel, rfl, by decide +kernel, by decide +kernel⟩
theorem c_of (F : At K mg "_law_of" s_law_of) (B : Bl mg) (c_law_take : Cal P w K mg base 1 "_law_take" spTake) : Cal P w K mg base 2 "_law_of" (spOf K) := by
  refine cal_of F sc_law_of (fun vs H Q E h => ?_) (fun _ _ _ _ _ _ us hl => match us, hl with | [_, _], _ => rfl) (fun f cdv A outer s H vs Q E hr h => ?_)
  · obtain ⟨b, v, n, rfl, _⟩ := h
    rfl
  · obtain ⟨b, v, n, rfl, hb, hn, h⟩ := h
    refine ⟨_, (pss_one (ps_ret (pe_ix (ix_A K) (pv 1) (pe_cA c_law_take hr (by omega) rfl (pa_cons (pv 0) (pa_cons (pe_callB (call_lenA K) rfl B.len (by decide +kernel) (pa_cons (pv 1) pa_nil)) pa_nil))) (fun _ _ => rfl)))), ?_⟩
    walk_at "rd"
    rcases h with ⟨a, xs, rfl, hs, h0, h1, k⟩ | ⟨z, rfl, h0, h1, k⟩
    · have hl : LenV K (.ref a) H xs.length := by
        rcases hs with hs | hs
        · exact .inl ⟨_, Evl.ex_l hid_ex hs, rfl⟩
        · exact .inr ⟨_, Evl.ex_t hid_ex hs, rfl⟩
      refine ⟨_, _, rfl, hl, ?_⟩
      walk_at "rd"
      refine ⟨b, _, n, rfl, hb, hn, by omega, by omega, fun d H' hd0 hd1 hd => ?_⟩
      obtain ⟨j, rfl⟩ := Int.eq_ofNat_of_zero_le hd0
      have hj : j < xs.length := by omega
      have hx : xs[j]? = some xs[j] := List.getElem?_eq_getElem hj
      rcases hs with hs | hs
      · refine r_ixL (Evl.ex_l hid_ex (hd.l hs)) (atI_nat hx) ?_
        exact k _ (List.getElem_mem hj) _ hd
      · refine r_ixT (Evl.ex_t hid_ex (hd.t hs)) (atI_nat hx) ?_
        exact k _ (List.getElem_mem hj) _ hd
    · refine r_lenS (by rw [sizeLine_eq]; omega) ?_
      walk_at "rd"
      refine ⟨b, _, n, rfl, hb, hn, by omega, by omega, fun d H' hd0 hd1 hd => ?_⟩
      obtain ⟨j, rfl⟩ := Int.eq_ofNat_of_zero_le hd0
      have hj : j < z.cps.toList.length := by
        have e : z.cps.toList.length = z.length := by simp [Str.length]
        omega
      refine r_ixS (by rw [sizeLine_eq]; omega) (atI_nat (List.getElem?_eq_getElem hj)) ?_
      exact k _ (List.getElem_mem hj) _ hd
end

section
variable {P : Program} {w : World} {K : PySem.W.Frag} {mg : Str → Option Value} {base : Heap}
/-! a word -/
def spWord : Sp := fun vs H Q _ => ∃ (b : Addr) (m n : Nat), vs = [.ref b, .int (m : Int)] ∧ Bag b n H ∧ n + m + 2 < 1000000000000 ∧ m ≤ 1000 ∧
  ∀ (z : Str) (H' : Hp), Word m z → Drw b (n + m + 2) H H' → Q (.str z) H'
abbrev s_law_word : Stmt := top 17
abbrev N_law_word : List Str := ["_law_bag_here", "_law_most", "_law_turn"]
theorem sc_law_word : FnScope N_law_word ["_law_bag_here", "_law_most"] (defScope s_law_word) := ⟨rfl, rfl, rfl, by decide +kernel, rfl, by decide +kernel, by decide +kernel⟩
theorem small_eq : ("abcdefghijklmnopqrstuvwxyz" : Str).cps.toList = (List.range 26).map (· + 97) := by decide +kernel
theorem small_ok {c : Nat} (h : c ∈ ("abcdefghijklmnopqrstuvwxyz" : Str).cps.toList) : 97 ≤ c ∧ c ≤ 122 := by
  rw [small_eq] at h
  obtain ⟨x, hx, rfl⟩ := List.mem_map.mp h
  have := List.mem_range.mp hx
  omega
theorem tl_join0 : ∀ cs : List Nat, (Txt.join ("" : Str) (cs.map fun c => (⟨#[c]⟩ : Str))).cps.toList = cs := by
  intro cs
  have h : ∀ l : List (List Nat), TL.joinL [] l = l.flatten := by
    intro l
    induction l with
    | nil => rfl
    | cons p r ih =>
      cases r with
      | nil => simp [TL.joinL]
      | cons q r => rw [TL.joinL, ih]; simp
  have e := TL.tl_join ("" : Str) (cs.map fun c => (⟨#[c]⟩ : Str))
  rw [TL.join_eq]
  refine e.trans ?_
  have e2 : TL.tl ("" : Str) = [] := by decide +kernel
  rw [e2, h, List.map_map]
  clear e
  induction cs with
  | nil => rfl
  | cons c r ih =>
    rw [List.map_cons, List.flatten_cons, ih]
    rfl
theorem c_word (F : At K mg "_law_word" s_law_word) (B : Bl mg) (c_law_take : Cal P w K mg base 1 "_law_take" spTake) (c_law_of : Cal P w K mg base 2 "_law_of" (spOf K)) : Cal P w K mg base 3 "_law_word" spWord := by
  refine cal_of F sc_law_word (fun vs H Q E h => ?_) (fun _ _ _ _ _ _ us hl => match us, hl with | [_, _], _ => rfl) (fun f cdv A outer s H vs Q E hr h => ?_)
  · obtain ⟨b, m, n, rfl, _⟩ := h
    rfl
  · obtain ⟨b, m, n, rfl, hb, hn, hm, k⟩ := h
    refine ⟨_, (pss_one (ps_ret (pe_joinA K pe_str (pe_lc (own := [("_law_turn", 2)]) rfl sc_law_word.nd (pi_range1 rfl B.range (pa_cons (pe_cA c_law_take hr (by omega) rfl (pa_cons (pv 0) (pa_cons (pe_op (op_addA K) (pv 1) pe_int) pa_nil))) pa_nil)) (blkOk_by (N := N_law_word) (sc := defScope s_law_word) (by decide +kernel)) (fun _ _ _ _ _ => (pg_name (i := 2) sc_law_word.nd rfl (Or.inl rfl))) (fun _ _ _ _ _ => pts_nil) (fun _ _ _ _ _ => (pe_cA c_law_of hr (by omega) rfl (pa_cons (pv 0) (pa_cons pe_str pa_nil)))))))), ?_⟩
    walk_at "rd"
    refine ⟨⟨_, rfl⟩, ?_⟩
    walk_at "rd"
    refine ⟨b, _, n, rfl, hb, by omega, by omega, by omega, fun d H1 hd0 hd1 hd => ?_⟩
    obtain ⟨j, rfl⟩ := Int.eq_ofNat_of_zero_le hd0
    refine ⟨_, rfl, by omega, by omega, fun D hD => ?_⟩
    have nDb : D ≠ b := by
      obtain ⟨l, h1, _⟩ := hd.bag
      exact (ne_of_none h1 hD).symm
    refine lc_range (lo := 0) (n := (j : Int).toNat) (fun i H' => ∃ cs : List Nat, cs.length = i ∧ (∀ c ∈ cs, 97 ≤ c ∧ c ≤ 122) ∧ H' D = some (.lst (cs.map fun c => V.str ⟨#[c]⟩)) ∧ Drw b (n + 1 + i) H1 H') ?_ ?_ ?_
    · exact ⟨[], rfl, fun _ h => by (cases h), upd_same, (hd.bag.new hD).1⟩
    · rintro i H' hi ⟨cs, hl, hc, h1, h2⟩
      walk_at "rd"
      refine ⟨rfl, ?_⟩
      walk_at "rd"
      refine ⟨b, _, n + 1 + i, rfl, h2.bag, by omega, .inr ⟨_, rfl, by decide +kernel, by decide +kernel, fun c hcm H2 hd2 => ?_⟩⟩
      have hD2 : H2 D = some (.lst (cs.map fun c => V.str ⟨#[c]⟩)) := hid_get (hd2.ex _ _ (hid_of h1 nDb))
      refine ⟨_, hD2, by rw [sizeLine_eq, List.length_map]; omega, cs ++ [c], by simp [hl], ?_, ?_, ?_⟩
      · intro x hx
        rcases List.mem_append.mp hx with hx | hx
        · exact hc x hx
        · rw [List.mem_singleton.mp hx]
          exact small_ok hcm
      · rw [upd_same, List.map_append]; rfl
      · exact (Drw.put (h2.trans hd2) (hid_none hD) nDb).mono (by omega)
    · rintro H' ⟨cs, hl, hc, h1, h2⟩
      have e1 : cs.map (fun c => V.str ⟨#[c]⟩) = (cs.map fun c => (⟨#[c]⟩ : Str)).map V.str := by rw [List.map_map]; rfl
      refine ⟨_, _, _, rfl, rfl, .inl (SqL.of (by rw [← e1]; exact h1)), ?_, ?_⟩
      · rw [List.map_map, List.length_map]
        have e2 : (cs.map ((fun (x : Str) => x.length) ∘ fun c => (⟨#[c]⟩ : Str))).sum = cs.length := by
          have : ∀ l : List Nat, (l.map ((fun (x : Str) => x.length) ∘ fun c => (⟨#[c]⟩ : Str))).sum = l.length := by
            intro l
            induction l with
            | nil => rfl
            | cons a r ih => rw [List.map_cons, List.sum_cons, ih, List.length_cons]; show 1 + r.length = _; omega
          exact this cs
        rw [e2]
        have e3 : ("" : Str).length = 0 := by decide +kernel
        rw [e3]
        omega
      · refine k _ _ ⟨?_, ?_⟩ ((hd.trans h2).mono (by omega))
        · have := congrArg List.length (tl_join0 cs)
          rw [show (Txt.join ("" : Str) (cs.map fun c => (⟨#[c]⟩ : Str))).length = (Txt.join ("" : Str) (cs.map fun c => (⟨#[c]⟩ : Str))).cps.toList.length from by simp [Str.length], this]
          omega
        · rw [tl_join0]
          exact hc
end

section
variable {P : Program} {w : World} {K : PySem.W.Frag} {mg : Str → Option Value} {base : Heap}
/-! a number -/
def spNumber : Sp := fun vs H Q _ => ∃ (b a : Addr) (n : Nat) (ns : List Int), vs = [.ref b, .ref a] ∧ Bag b n H ∧ n + 10 < 1000000000000 ∧ hid b H a = some (.lst (ns.map V.int)) ∧ ns.length ≤ 1000 ∧
  ∀ (r : Int) (H' : Hp), r.natAbs < 10 ^ 30 → Drw b (n + 10) H H' → Q (.int r) H'
abbrev s_law_number : Stmt := top 16
abbrev N_law_number : List Str := ["_law_bag_here", "_law_near", "_law_way", "_law_top"]
theorem sc_law_number : FnScope N_law_number ["_law_bag_here", "_law_near"] (defScope s_law_number) := ⟨rfl, rfl, rfl, by decide +kernel, rfl, by decide +kernel, by decide +kernel⟩
theorem c_number (F : At K mg "_law_number" s_law_number) (B : Bl mg) (c_law_take : Cal P w K mg base 1 "_law_take" spTake) (c_law_of : Cal P w K mg base 2 "_law_of" (spOf K)) : Cal P w K mg base 3 "_law_number" spNumber := by
  refine cal_of F sc_law_number (fun vs H Q E h => ?_) (fun _ _ _ _ _ _ us hl => match us, hl with | [_, _], _ => rfl) (fun f cdv A outer s H vs Q E hr h => ?_)
  · obtain ⟨b, a, n, ns, rfl, _⟩ := h
    rfl
  · obtain ⟨b, a, n, ns, rfl, hb, hn, hna, hns, k⟩ := h
    refine ⟨_, (pss_cons (ps_par (i := 2) (j := 3) (by rfl) sc_law_number.nd rfl rfl (by decide) rfl rfl (pa_cons (pe_cA c_law_take hr (by omega) rfl (pa_cons (pv 0) (pa_cons pe_int pa_nil))) (pa_cons (pe_op op_sub (pe_op op_pow pe_int pe_int) pe_int) pa_nil)) (by rfl))
  (pss_cons (ps_if (pt_cmpR op_gtA (pv 2) pe_int (nomark _))
   (pss_one (ps_ret (pe_op op_sub (pe_cA c_law_take hr (by omega) rfl (pa_cons (pv 0) (pa_cons pe_int pa_nil))) pe_int)))
   pss_nil)
  (pss_cons (ps_if (pt_cmpR (op_eqA K hr.units) (pv 2) pe_int (nomark _))
   (pss_one (ps_ret (pe_op op_mulA (pe_op op_sub (pv 3) (pe_cA c_law_take hr (by omega) rfl (pa_cons (pv 0) (pa_cons (pe_op op_pow pe_int pe_int) pa_nil)))) (pe_op op_sub pe_int (pe_op op_mulA pe_int (pe_cA c_law_take hr (by omega) rfl (pa_cons (pv 0) (pa_cons pe_int pa_nil))))))))
   pss_nil)
  (pss_one (ps_ret (pe_callB (call_max2A rfl) rfl B.max (by decide +kernel) (pa_cons (pe_un un_neg (pv 3)) (pa_cons (pe_callB (call_min2A rfl) rfl B.min (by decide +kernel) (pa_cons (pv 3) (pa_cons (pe_op op_sub (pe_op (op_addA K) (pe_cA c_law_of hr (by omega) rfl (pa_cons (pv 0) (pa_cons (pe_op (op_addA K) (pv 1) (pe_lst (pa_cons pe_int pa_nil))) pa_nil))) (pe_cA c_law_take hr (by omega) rfl (pa_cons (pv 0) (pa_cons pe_int pa_nil)))) pe_int) pa_nil))) pa_nil)))))))), ?_⟩
    walk_at "rd"
    refine ⟨b, _, n, rfl, hb, by omega, by decide, by decide, fun d H1 hd0 hdl hd1 => ?_⟩
    walk_at "rx"
    refine iteD (fun h1 => ?_) (fun h1 => ?_)
    · walk_at "rd"
      refine ⟨b, _, n + 1, rfl, hd1.bag, by omega, by decide, by decide, fun d2 H2 hd20 hd2l hd2 => ?_⟩
      walk_at "rd"
      refine k _ _ ?_ ((hd1.trans hd2).mono (by omega))
      omega
    · walk_at "rd"
      refine iteD (fun h2 => ?_) (fun h2 => ?_)
      · walk_at "rx"
        refine ⟨b, _, n + 1, rfl, hd1.bag, by omega, by decide, by decide, fun d2 H2 hd20 hd2l hd2 => ?_⟩
        walk_at "rx"
        refine ⟨b, _, n + 2, rfl, hd2.bag, by omega, by decide, by decide, fun d3 H3 hd30 hd3l hd3 => ?_⟩
        walk_at "rx"
        have e10 : (10 : Int) ^ (30 : Int).toNat = 1000000000000000000000000000000 := by decide
        rw [e10] at hd2l
        refine k _ _ ?_ (((hd1.trans hd2).trans hd3).mono (by omega))
        rw [e10]
        obtain rfl | rfl : d3 = 0 ∨ d3 = 1 := by omega
        · omega
        · omega
      · walk_at "rd"
        have e10 : (10 : Int) ^ (30 : Int).toNat = 1000000000000000000000000000000 := by decide
        refine ⟨Nat.le_of_lt (by decide), fun p hp => ?_⟩
        have hd2 := hd1.bag.new (o := .lst [.int 0]) hp
        have hna2 := hd2.1.ex _ _ (hd1.ex _ _ hna)
        refine r_addL (hid_get hna2) (hid_get hd2.2) (by rw [sizeLine_eq, List.length_map]; show _ + 1 ≤ _; omega) (fun l hl => ?_)
        have hd3 := hd2.1.bag.new (o := .lst (ns.map V.int ++ [.int 0])) hl
        walk_at "rd"
        refine ⟨b, _, n + 1, rfl, hd3.1.bag, by omega, .inl ⟨l, _, rfl, .inl (SqL.of hd3.2), by simp, by rw [List.length_append, List.length_map]; show _ + 1 ≤ _; omega, fun y hy H2 hd4 => ?_⟩⟩
        obtain ⟨yi, rfl⟩ : ∃ yi, y = V.int yi := by
          rcases List.mem_append.mp hy with hy | hy
          · obtain ⟨yi, _, rfl⟩ := List.mem_map.mp hy
            exact ⟨yi, rfl⟩
          · exact ⟨0, List.mem_singleton.mp hy⟩
        walk_at "rd"
        refine ⟨b, _, n + 2, rfl, hd4.bag, by omega, by decide, by decide, fun d5 H5 hd50 hd5l hd5 => ?_⟩
        walk_at "rd"
        refine k _ _ ?_ (((((hd1.trans hd2.1).trans hd3.1).trans hd4).trans hd5).mono (by omega))
        rw [e10]
        split <;> split <;> omega
end

section
variable {P : Program} {w : World} {K : PySem.W.Frag} {mg : Str → Option Value} {base : Heap}
/-! a bag -/
def spBag (K : PySem.W.Frag) : Sp := fun vs H Q _ => ∃ (a : Addr) (ns : List Int) (i : Nat), vs = [.ref a, .int (i : Int)] ∧ SqL K H a (ns.map V.int) ∧ i < 64 ∧ ns.length ≤ 63 ∧
  ∀ (b : Addr) (l : List V), H b = none → BagL 0 l → Q (.ref b) (upd H b (.lst l))
abbrev s_law_bag : Stmt := top 24
abbrev N_law_bag : List Str := ["_law_script", "_law_at", "_law_cell"]
theorem sc_law_bag : FnScope N_law_bag ["_law_script", "_law_at"] (defScope s_law_bag) := ⟨rfl, rfl, rfl, by decide +kernel, rfl, by decide +kernel, by decide +kernel⟩
theorem c_bag (F : At K mg "_law_bag" s_law_bag) (B : Bl mg) : Cal P w K mg base 1 "_law_bag" (spBag K) := by
  refine cal_of F sc_law_bag (fun vs H Q E h => ?_) (fun _ _ _ _ _ _ us hl => match us, hl with | [_, _], _ => rfl) (fun f cdv A outer s H vs Q E hr h => ?_)
  · obtain ⟨a, ns, i, rfl, _⟩ := h
    rfl
  · obtain ⟨a, ns, i, rfl, hs, hi, hns, k⟩ := h
    refine ⟨_, (pss_cons (ps_set (i := 2) sc_law_bag.nd rfl (Or.inl rfl) (pe_ifExp (pt_cmpR op_ltA (pv 1) (pe_callB (call_lenA K) rfl B.len (by decide +kernel) (pa_cons (pv 0) pa_nil)) (nomark _)) (pe_ix (ix_A K) (pv 0) (pv 1) (fun _ _ => rfl)) pe_int))
  (pss_one (ps_ret (pe_lst (pa_cons (pe_ifExp (pt_cmpR op_geA (pe_callB call_absA rfl B.abs (by decide +kernel) (pa_cons (pv 2) pa_nil)) (pe_op op_pow pe_int pe_int) (nomark _)) (pe_callB call_absA rfl B.abs (by decide +kernel) (pa_cons (pv 2) pa_nil)) pe_int) (pa_cons (pe_op (op_addA K) (pe_op op_mod (pe_callTy call_intA rfl B.int (by decide +kernel) (pa_cons (pv 2) pa_nil)) pe_int) (pe_op op_mulA pe_int (pv 1))) (pa_cons pe_int pa_nil))))))), ?_⟩
    walk_at "rd"
    refine r_lenL hs ?_
    walk_at "rd"
    have key : ∀ c : Int, tRet (tLst (tCons (tIf (tTest (tOp rGeA (tCB rAbsA (tCons (tVar 2) tNil)) (tOp (rI CPow fun i j => .int (i ^ j.toNat)) (tC (.int 10)) (tC (.int 18))))) (tCB rAbsA (tCons (tVar 2) tNil)) (tC (.int 0)))
        (tCons (tOp (rAddA K) (tOp (rI (fun _ j => 0 < j) fun i j => .int (i % j)) (tCB rIntA (tCons (tVar 2) tNil)) (tC (.int 998244353))) (tOp rMulA (tC (.int 3000017)) (tVar 1))) (tCons (tC (.int 0)) tNil)))) { nx := fun _ H' => Q .non H', rt := Q } [some (.ref a), some (.int (i : Int)), some (.int c)] H := by
      intro c
      have hm1 : 0 ≤ c % 998244353 := Int.emod_nonneg _ (by decide)
      have hm2 : c % 998244353 < 998244353 := Int.emod_lt_of_pos _ (by decide)
      walk_at "rx"
      refine iteD (fun h1 => ?_) (fun h1 => ?_)
      · walk_at "rx"
        refine ⟨(by show 3 ≤ sizeLine; decide), fun p hp => k p _ hp ⟨_, _, _, rfl, by omega, by omega, by omega, by omega⟩⟩
      · walk_at "rx"
        refine ⟨(by show 3 ≤ sizeLine; decide), fun p hp => k p _ hp ⟨_, _, _, rfl, by omega, by omega, by omega, by omega⟩⟩
    refine iteD (fun h1 => ?_) (fun h1 => ?_)
    · have hi2 : i < ns.length := by
        rw [List.length_map] at h1
        omega
      walk_at "rd"
      refine r_ixL hs (atI_nat (by rw [List.getElem?_map, List.getElem?_eq_getElem hi2]; rfl)) ?_
      exact key _
    · refine r_c ?_
      exact key 0
end

abbrev s_law_any_constant : Stmt := top 18
abbrev N_law_any_constant : List Str := ["_law_bag_here", "_law_way"]
theorem sc_law_any_constant : FnScope N_law_any_constant ["_law_bag_here"] (defScope s_law_any_constant) := ⟨rfl, rfl, rfl, by decide +kernel, rfl, by decide +kernel, by decide +kernel⟩
def spConst : Sp := fun vs H Q _ => ∃ (b : Addr) (n : Nat), vs = [.ref b] ∧ Bag b n H ∧ n + 20 < 1000000000000 ∧ ∀ (v : V) (H' : Hp), Cst v → Drw b (n + 20) H H' → Q v H'
section
variable {P : Program} {w : World} {K : PySem.W.Frag} {mg : Str → Option Value} {base : Heap}
theorem c_any_constant (F : At K mg "_law_any_constant" s_law_any_constant) (B : Bl mg) (c_law_take : Cal P w K mg base 1 "_law_take" spTake) (c_law_of : Cal P w K mg base 2 "_law_of" (spOf K)) (c_law_word : Cal P w K mg base 3 "_law_word" spWord) (c_law_number : Cal P w K mg base 3 "_law_number" spNumber) : Cal P w K mg base 4 "_law_any_constant" spConst := by
  refine cal_of F sc_law_any_constant (fun vs H Q E h => ?_) (fun _ _ _ _ _ _ us hl => match us, hl with | [_], _ => rfl) (fun f cdv A outer s H vs Q E hr h => ?_)
  · obtain ⟨b, n, rfl, _⟩ := h
    rfl
  · obtain ⟨b, n, rfl, hb, hn, kk⟩ := h
    refine ⟨_, (pss_cons (ps_set (i := 1) sc_law_any_constant.nd rfl (Or.inl rfl) (pe_cA c_law_take hr (by omega) rfl (pa_cons (pv 0) (pa_cons pe_int pa_nil))))
  (pss_cons (ps_if (pt_cmpR (op_eqA K hr.units) (pv 1) pe_int (nomark _))
   (pss_one (ps_ret pe_non))
   pss_nil)
  (pss_cons (ps_if (pt_cmpR (op_eqA K hr.units) (pv 1) pe_int (nomark _))
   (pss_one (ps_ret (pe_cA c_law_of hr (by omega) rfl (pa_cons (pv 0) (pa_cons (pe_lst (pa_cons pe_int (pa_cons pe_int (pa_cons (pe_un un_neg pe_int) (pa_cons pe_int (pa_cons (pe_un un_neg pe_int) (pa_cons pe_int (pa_cons (pe_op op_sub (pe_op op_pow pe_int pe_int) pe_int) (pa_cons (pe_op op_sub pe_int (pe_op op_pow pe_int pe_int)) pa_nil))))))))) pa_nil)))))
   pss_nil)
  (pss_one (ps_ret (pe_ifExp (pt_cmpR op_ltA (pv 1) pe_int (nomark _)) (pe_cA c_law_number hr (by omega) rfl (pa_cons (pv 0) (pa_cons (pe_lst pa_nil) pa_nil))) (pe_cA c_law_word hr (by omega) rfl (pa_cons (pv 0) (pa_cons pe_int pa_nil))))))))), ?_⟩
    walk_at "rd"
    refine ⟨b, _, n, rfl, hb, by omega, by decide, by decide, fun way H1 hw0 hw1 r1 => ?_⟩
    walk_at "rd"
    refine iteD (fun h1 => ?_) (fun h1 => ?_)
    · walk_at "rd"
      exact kk _ _ trivial (r1.mono (by omega))
    · walk_at "rd"
      refine iteD (fun h2 => ?_) (fun h2 => ?_)
      · walk_at "rx"
        refine ⟨by show 8 ≤ sizeLine; decide, fun p hp => ?_⟩
        obtain ⟨r2, hp2⟩ := r1.bag.new (o := .lst [.int 0, .int 1, .int (-1), .int 9, .int (-9), .int 10, .int (10 ^ (30 : Int).toNat - 1), .int (1 - 10 ^ (30 : Int).toNat)]) hp
        walk_at "rd"
        refine ⟨b, _, n + 1, rfl, r2.bag, by omega, .inl ⟨p, _, rfl, .inl (SqL.of hp2), by simp, by simp, fun y hy H3 r3 => ?_⟩⟩
        refine kk _ _ ?_ (((r1.trans r2).trans r3).mono (by omega))
        simp only [List.mem_cons, List.not_mem_nil, or_false] at hy
        rcases hy with rfl | rfl | rfl | rfl | rfl | rfl | rfl | rfl
        all_goals (show Int.natAbs _ < _; decide)
      · walk_at "rd"
        refine iteD (fun h3 => ?_) (fun h3 => ?_)
        · walk_at "rd"
          refine ⟨Nat.zero_le _, fun p hp => ?_⟩
          obtain ⟨r2, hp2⟩ := r1.bag.new (o := .lst []) hp
          walk_at "rd"
          refine ⟨b, p, n + 1, [], rfl, r2.bag, by omega, hp2, by simp, fun i H3 hi r3 => ?_⟩
          exact kk _ _ hi (((r1.trans r2).trans r3).mono (by omega))
        · walk_at "rd"
          refine ⟨b, 8, n + 1, rfl, r1.bag, by omega, by omega, fun z H3 hz r3 => ?_⟩
          exact kk _ _ hz ((r1.trans r3).mono (by omega))
end

abbrev s_law_written : Stmt := top 26
abbrev N_law_written : List Str := ["_law_value_here", "_law_one"]
theorem sc_law_written : FnScope N_law_written ["_law_value_here"] (defScope s_law_written) := ⟨rfl, rfl, rfl, by decide +kernel, rfl, by decide +kernel, by decide +kernel⟩
def spWritten : Sp := fun vs H Q _ => ∃ v, vs = [v] ∧ Cst v ∧ Q (.str (cstS v)) H
section
variable {P : Program} {w : World} {K : PySem.W.Frag} {mg : Str → Option Value} {base : Heap}
theorem quoteE2 : ("\"" : Str) = ⟨#[34]⟩ := by decide +kernel
theorem written_never (F : At K mg "_law_written" s_law_written) : Cal P w K mg base 1 "_law_written" (fun _ _ _ _ => False) :=
  cal_of F sc_law_written (fun vs H Q E h => h.elim) (fun _ _ _ _ _ _ us hl => match us, hl with | [_], _ => rfl) (fun f cdv A outer s H vs Q E hr h => h.elim)
theorem c_written_ (F : At K mg "_law_written" s_law_written) (B : Bl mg) (c_law_written : Cal P w K mg base 1 "_law_written" (fun _ _ _ _ => False)) : Cal P w K mg base 2 "_law_written" spWritten := by
  refine cal_of F sc_law_written (fun vs H Q E h => ?_) (fun _ _ _ _ _ _ us hl => match us, hl with | [_], _ => rfl) (fun f cdv A outer s H vs Q E hr h => ?_)
  · obtain ⟨v, rfl, _⟩ := h
    rfl
  · obtain ⟨v, rfl, hv, k⟩ := h
    refine ⟨_, (pss_cons (ps_if (pt_val (pe_callB (call_isinstanceA K) rfl B.isinstance (by decide +kernel) (pa_cons (pv 0) (pa_cons (pe_bltn (v := .ty "tuple") rfl B.tuple (by decide +kernel) rfl) pa_nil))))
   (pss_one (ps_ret (pe_op (op_addA K) (pe_op (op_addA K) pe_str (pe_joinA K pe_str (pe_lc (own := [("_law_one", 1)]) rfl sc_law_written.nd (pi_any K (pv 0)) (blkOk_by (N := N_law_written) (sc := defScope s_law_written) (by decide +kernel)) (fun _ _ _ _ _ => (pg_name (i := 1) sc_law_written.nd rfl (Or.inl rfl))) (fun _ _ _ _ _ => pts_nil) (fun _ _ _ _ _ => (pe_cA c_law_written hr (by omega) rfl (pa_cons (pv 1) pa_nil)))))) pe_str)))
   pss_nil)
  (pss_cons (ps_if (pt_cmpR op_isA (pv 0) pe_non (nomark _))
   (pss_one (ps_ret pe_str))
   pss_nil)
  (pss_one (ps_ret (pe_ifExp (pt_val (pe_callB (call_isinstanceA K) rfl B.isinstance (by decide +kernel) (pa_cons (pv 0) (pa_cons (pe_bltn (v := .ty "str") rfl B.str (by decide +kernel) rfl) pa_nil)))) (pe_op (op_addA K) (pe_op (op_addA K) pe_str (pv 0)) pe_str) (pe_callTy call_strA rfl B.str (by decide +kernel) (pa_cons (pv 0) pa_nil))))))), ?_⟩
    cases v with
    | non => walk_at "rx"; exact k
    | int i =>
      have hv : i.natAbs < 10 ^ 30 := hv
      walk_at "rx"
      refine r_str (Nat.lt_trans hv (by decide)) ?_
      exact k
    | str z =>
      have hv : Word 8 z := hv
      have h1 := hv.1
      walk_at "rx"
      rw [quoteE2]
      refine r_addS (by rw [sizeLine_eq]; show 1 + z.length ≤ _; omega) ?_
      walk_at "rx"
      refine r_addS ?_ ?_
      · rw [sizeLine_eq, ← tl_length, tl_app, List.length_append, tl_length]
        show 1 + z.length + 1 ≤ _
        omega
      · exact k
    | _ => exact hv.elim
end

abbrev s_law_call_text : Stmt := top 27
abbrev N_law_call_text : List Str := ["_law_name", "_law_values", "_law_value_here"]
theorem sc_law_call_text : FnScope N_law_call_text ["_law_name", "_law_values"] (defScope s_law_call_text) := ⟨rfl, rfl, rfl, by decide +kernel, rfl, by decide +kernel, by decide +kernel⟩
def spCText (K : PySem.W.Frag) : Sp := fun vs H Q _ => ∃ (name : Str) (a : Addr) (xs : List V), vs = [.str name, .ref a] ∧ name.length ≤ 1000 ∧ SqL K H a xs ∧ (∀ v ∈ xs, Cst v) ∧ xs.length ≤ 1000 ∧
  ∀ (z : Str) (H' : Hp), tl z = tl name ++ 40 :: (TL.joinL sep (xs.map cstL) ++ [41]) → Evl.Ex H H' → Q (.str z) H'
section
variable {P : Program} {w : World} {K : PySem.W.Frag} {mg : Str → Option Value} {base : Heap}
def wV (v : V) : V := .str (cstS v)
theorem sepE : TL.tl (", " : Str) = sep := by decide +kernel
theorem sum_le {m : Nat} : ∀ {xs : List V}, (∀ v ∈ xs, Cst v) → ((xs.map fun v => cstS v).map (·.length)).sum ≤ xs.length * 40
  | [], _ => by simp
  | v :: r, h => by
    have h1 := cst_len (h v (List.mem_cons_self ..))
    unfold cstL at h1
    rw [tl_length] at h1
    have h2 := sum_le (m := m) (xs := r) fun u hu => h u (List.mem_cons_of_mem _ hu)
    rw [List.map_cons, List.map_cons, List.sum_cons, List.length_cons]
    omega
theorem c_call_text_ (F : At K mg "_law_call_text" s_law_call_text) (B : Bl mg) (c_law_written : Cal P w K mg base 2 "_law_written" spWritten) : Cal P w K mg base 3 "_law_call_text" (spCText K) := by
  refine cal_of F sc_law_call_text (fun vs H Q E h => ?_) (fun _ _ _ _ _ _ us hl => match us, hl with | [_, _], _ => rfl) (fun f cdv A outer s H vs Q E hr h => ?_)
  · obtain ⟨n, a, xs, rfl, _⟩ := h
    rfl
  · obtain ⟨n, a, xs, rfl, hn, hs, hc, hl, k⟩ := h
    refine ⟨_, (pss_one (ps_ret (pe_op (op_addA K) (pe_op (op_addA K) (pe_op (op_addA K) (pv 0) pe_str) (pe_joinA K pe_str (pe_lc (own := [("_law_value_here", 2)]) rfl sc_law_call_text.nd (pi_any K (pv 1)) (blkOk_by (N := N_law_call_text) (sc := defScope s_law_call_text) (by decide +kernel)) (fun _ _ _ _ _ => (pg_name (i := 2) sc_law_call_text.nd rfl (Or.inl rfl))) (fun _ _ _ _ _ => pts_nil) (fun _ _ _ _ _ => (pe_cA c_law_written hr (by omega) rfl (pa_cons (pv 2) pa_nil)))))) pe_str))), ?_⟩
    walk_at "rx"
    refine r_addS (by rw [sizeLine_eq]; show n.length + 1 ≤ _; omega) ?_
    walk_at "rx"
    refine ⟨⟨_, rfl⟩, ?_⟩
    walk_at "rx"
    refine .inl ⟨a, rfl, ⟨_, hs⟩, ?_⟩
    intro D hD
    refine lc_seq (K := K) (a := a) hD wV hs ?_ ?_ ?_ ?_
    · exact fun _ => rfl
    · omega
    · intro v hv H' e1 Q' q
      walk_at "rd"
      exact ⟨v, rfl, hc v hv, q _ (Evl.Ex.refl _)⟩
    · intro H1 e1 hD2
      have hsum := sum_le (m := 0) hc
      have hcl : (", " : Str).length = 2 := by decide +kernel
      refine ⟨_, D, xs.map cstS, rfl, rfl, .inl (SqL.of (by rw [hD2, List.map_map]; rfl)), ?_, ?_⟩
      · rw [List.length_map, hcl]
        have : ((xs.map cstS).map (·.length)).sum ≤ xs.length * 40 := hsum
        omega
      · have ej : tl (Txt.join (", " : Str) (xs.map cstS)) = TL.joinL sep (xs.map cstL) := by
          rw [TL.join_eq]
          refine (TL.tl_join _ _).trans ?_
          rw [sepE, List.map_map]
          rfl
        have hjl : (Txt.join (", " : Str) (xs.map cstS)).length ≤ xs.length * 42 := by
          rw [← tl_length, ej]
          have := join_len (m := 40) (parts := xs.map cstL) fun p hp => by
            obtain ⟨v, hv, rfl⟩ := List.mem_map.mp hp
            exact cst_len (hc v hv)
          rw [List.length_map] at this
          exact this
        have hp1 : (n ++ ("(" : Str)).length = n.length + 1 := by
          rw [← tl_length, tl_app, List.length_append, tl_length]
          rfl
        refine r_addS (by rw [sizeLine_eq, hp1]; omega) ?_
        walk_at "rx"
        refine r_addS ?_ ?_
        · rw [sizeLine_eq, ← tl_length, tl_app, List.length_append, tl_length, tl_length, hp1]
          show _ + 1 ≤ _
          omega
        · refine k _ _ ?_ e1
          rw [tl_app, tl_app, tl_app, ej]
          rw [show tl ("(" : Str) = [40] by decide +kernel, show tl (")" : Str) = [41] by decide +kernel]
          simp
end

abbrev s_law_keywords : Stmt := top 20
abbrev N_law_keywords : List Str := []
theorem sc_law_keywords : FnScope N_law_keywords [] (defScope s_law_keywords) := ⟨rfl, rfl, rfl, by decide +kernel, rfl, by decide +kernel, by decide +kernel⟩
def spKw : Sp := fun vs H Q _ => vs = [] ∧ ∀ p, H p = none → Q (.ref p) (upd H p (.lst (kwS.map V.str)))
section
variable {P : Program} {w : World} {K : PySem.W.Frag} {mg : Str → Option Value} {base : Heap}
theorem c_keywords (F : At K mg "_law_keywords" s_law_keywords) (B : Bl mg) : Cal P w K mg base 1 "_law_keywords" spKw := by
  refine cal_of F sc_law_keywords (fun vs H Q E h => ?_) (fun _ _ _ _ _ _ us hl => match us, hl with | [], _ => rfl) (fun f cdv A outer s H vs Q E hr h => ?_)
  · rw [h.1]; rfl
  · obtain ⟨rfl, k⟩ := h
    refine ⟨_, (pss_one (ps_ret (pe_lst (pa_cons pe_str (pa_cons pe_str (pa_cons pe_str (pa_cons pe_str (pa_cons pe_str (pa_cons pe_str (pa_cons pe_str (pa_cons pe_str (pa_cons pe_str (pa_cons pe_str (pa_cons pe_str (pa_cons pe_str (pa_cons pe_str (pa_cons pe_str (pa_cons pe_str (pa_cons pe_str (pa_cons pe_str (pa_cons pe_str (pa_cons pe_str (pa_cons pe_str (pa_cons pe_str (pa_cons pe_str (pa_cons pe_str (pa_cons pe_str (pa_cons pe_str (pa_cons pe_str (pa_cons pe_str (pa_cons pe_str (pa_cons pe_str (pa_cons pe_str (pa_cons pe_str (pa_cons pe_str (pa_cons pe_str (pa_cons pe_str pa_nil))))))))))))))))))))))))))))))))))))), ?_⟩
    walk_at "rd"
    exact ⟨by show 34 ≤ sizeLine; decide, k⟩
end

abbrev s_law_any_name : Stmt := top 25
abbrev N_law_any_name : List Str := ["_law_bag_here", "_law_letters", "_law_found", "_law_turn"]
theorem sc_law_any_name : FnScope N_law_any_name ["_law_bag_here"] (defScope s_law_any_name) := ⟨rfl, rfl, rfl, by decide +kernel, rfl, by decide +kernel, by decide +kernel⟩
def spAName : Sp := fun vs H Q _ => ∃ (b : Addr) (n : Nat), vs = [.ref b] ∧ Bag b n H ∧ n + 20 < 1000000000000 ∧ ∀ (z : Str) (H' : Hp), isNameL (tl z) = true → Drw b (n + 20) H H' → Q (.str z) H'
section
variable {P : Program} {w : World} {K : PySem.W.Frag} {mg : Str → Option Value} {base : Heap}
theorem any_flat2 (l : List Str) : (l.map V.str).all flatV = true := by
  rw [List.all_eq_true]
  intro v hv
  obtain ⟨z, _, rfl⟩ := List.mem_map.mp hv
  rfl
theorem in_strs2 (z : Str) : ∀ l : List Str, inV (.str z) (l.map V.str) = l.any fun k => decide (tl k = tl z)
  | [] => rfl
  | k :: r => by
    have h := in_strs2 z r
    unfold inV at h ⊢
    rw [List.map_cons, List.any_cons, List.any_cons, h]
    congr 1
    show eqV (.str k) (.str z) = _
    unfold eqV
    first
      | exact decide_eq_decide.mpr (by rw [tl_inj])
      | (by_cases e : k = z
         · subst e; simp
         · have : ¬ tl k = tl z := fun q => e (tl_ext q)
           simp [e, this])
theorem kw_q : kwS.all (fun k => isNameL (113 :: tl k)) = true := by decide +kernel
theorem c_any_name (F : At K mg "_law_any_name" s_law_any_name) (B : Bl mg) (c_law_take : Cal P w K mg base 1 "_law_take" spTake) (c_law_of : Cal P w K mg base 2 "_law_of" (spOf K)) (c_law_keywords : Cal P w K mg base 1 "_law_keywords" spKw) : Cal P w K mg base 3 "_law_any_name" spAName := by
  refine cal_of F sc_law_any_name (fun vs H Q E h => ?_) (fun _ _ _ _ _ _ us hl => match us, hl with | [_], _ => rfl) (fun f cdv A outer s H vs Q E hr h => ?_)
  · obtain ⟨b, n, rfl, _⟩ := h
    rfl
  · obtain ⟨b, n, rfl, hb, hn, k⟩ := h
    refine ⟨_, (pss_cons (ps_set (i := 1) sc_law_any_name.nd rfl (Or.inl rfl) pe_str)
  (pss_cons (ps_set (i := 2) sc_law_any_name.nd rfl (Or.inl rfl) (pe_cA c_law_of hr (by omega) rfl (pa_cons (pv 0) (pa_cons (pv 1) pa_nil))))
  (pss_cons (ps_for PassesOwn.never rfl (pi_range1 rfl B.range (pa_cons (pe_cA c_law_take hr (by omega) rfl (pa_cons (pv 0) (pa_cons pe_int pa_nil))) pa_nil)) (pg_name (i := 3) sc_law_any_name.nd rfl (Or.inl rfl))
   (pss_one (ps_set (i := 2) sc_law_any_name.nd rfl (Or.inl rfl) (pe_op (op_addA K) (pv 2) (pe_cA c_law_of hr (by omega) rfl (pa_cons (pv 0) (pa_cons (pv 1) pa_nil)))))))
  (pss_cons (ps_if (pt_cmpR (op_inA K) (pv 2) (pe_cA0 c_law_keywords hr (by omega) rfl) (by rfl))
   (pss_one (ps_set (i := 2) sc_law_any_name.nd rfl (Or.inl rfl) (pe_op (op_addA K) pe_str (pv 2))))
   pss_nil)
  (pss_one (ps_ret (pv 2))))))), ?_⟩
    walk_at "rd"
    refine ⟨b, _, n, rfl, hb, by omega, .inr ⟨_, rfl, by decide +kernel, by decide +kernel, fun c0 hc0 H1 hd1 => ?_⟩⟩
    replace hc0 := small_ok hc0
    walk_at "rd"
    refine ⟨b, _, n + 1, rfl, hd1.bag, by omega, by decide, by decide, fun d H2 hd0 hdl hd2 => ?_⟩
    refine ⟨_, rfl, by omega, by omega, for_range (lo := 0) (n := d.toNat) (fun i σ H' => ∃ (z : Str) (u : Option V), σ = [some (.ref b), some (.str "abcdefghijklmnopqrstuvwxyz"), some (.str z), u] ∧ z.length = i + 1 ∧ (∀ x ∈ tl z, 97 ≤ x ∧ x ≤ 122) ∧ Drw b (n + 2 + i) H H') ?_ ?_ ?_⟩
    · exact ⟨⟨#[c0]⟩, none, rfl, rfl, fun x hx => by rw [show x = c0 from List.mem_singleton.mp hx]; exact hc0, hd1.trans hd2⟩
    · rintro i σ H' hi ⟨z, u, rfl, hz, hlet, hd⟩
      walk_at "rd"
      refine ⟨b, _, n + 2 + i, rfl, hd.bag, by omega, .inr ⟨_, rfl, by decide +kernel, by decide +kernel, fun c hc H3 hd3 => ?_⟩⟩
      refine r_addS (by rw [sizeLine_eq, hz]; show i + 1 + 1 ≤ _; omega) ?_
      refine ⟨_, _, rfl, ?_, ?_, (hd.trans hd3).mono (by omega)⟩
      · rw [← tl_length, tl_app, List.length_append, tl_length, hz]; rfl
      · intro x hx
        rw [tl_app] at hx
        rcases List.mem_append.mp hx with hx | hx
        · exact hlet x hx
        · rw [show x = c from List.mem_singleton.mp hx]
          exact small_ok hc
    · rintro σ H' ⟨z, u, rfl, hz, hlet, hd⟩
      walk_at "rd"
      refine ⟨rfl, fun p hp => ?_⟩
      have r3 := (hd.bag.new (o := .lst (kwS.map V.str)) hp).1
      refine .inr ⟨p, _, rfl, .inl (SqL.of upd_same), rfl, any_flat2 kwS, ?_⟩
      rw [if_neg Bool.false_ne_true, in_strs2]
      walk_at "rd"
      refine iteB (fun h1 => ?_) (fun h1 => ?_)
      · walk_at "rd"
        refine r_addS (by rw [sizeLine_eq]; show 1 + z.length ≤ _; omega) ?_
        walk_at "rd"
        refine k _ _ ?_ ((hd.trans r3).mono (by omega))
        obtain ⟨kw, hk1, hk2⟩ := List.any_eq_true.mp h1
        rw [tl_app, ← of_decide_eq_true hk2, show tl ("q" : Str) = [113] by decide +kernel]
        exact List.all_eq_true.mp kw_q kw hk1
      · walk_at "rd"
        refine k _ _ ?_ ((hd.trans r3).mono (by omega))
        unfold isNameL isWordL
        rw [h1, decide_eq_true (show (tl z).length ≤ 12 by rw [tl_length]; omega), decide_eq_true (show tl z ≠ [] from fun e => by have := tl_length z; rw [e] at this; simp at this; omega), Bool.true_and]
        rw [show (tl z).all (fun c => decide (c ∈ smallL)) = true from List.all_eq_true.mpr fun c hc => decide_eq_true (small_mem.mpr (hlet c hc))]
        rfl
end

abbrev s_law_is_word : Stmt := top 19
abbrev N_law_is_word : List Str := ["_law_thing", "_law_most", "_law_sign"]
theorem sc_law_is_word : FnScope N_law_is_word ["_law_thing", "_law_most"] (defScope s_law_is_word) := ⟨rfl, rfl, rfl, by decide +kernel, rfl, by decide +kernel, by decide +kernel⟩
theorem smallE3 : ("abcdefghijklmnopqrstuvwxyz" : Str).cps.toList = smallL := by decide +kernel
def spLWord (K : PySem.W.Frag) : Sp := fun vs H Q _ => ∃ (v : V) (d : PyData) (m : Int), vs = [v, .int m] ∧ Dp K H v d ∧ fit d = true ∧ ∀ H', Evl.Ex H H' → Q (.bl (isWordD m d)) H'
section
variable {P : Program} {w : World} {K : PySem.W.Frag} {mg : Str → Option Value} {base : Heap}
theorem c_law_is_word_ (F : At K mg "_law_is_word" s_law_is_word) (B : Bl mg) : Cal P w K mg base 1 "_law_is_word" (spLWord K) := by
  refine cal_of F sc_law_is_word (fun vs H Q E h => ?_) (fun _ _ _ _ _ _ us hl => match us, hl with | [_, _], _ => rfl) (fun f cdv A outer s H vs Q E hr h => ?_)
  · obtain ⟨v, d, m, rfl, _⟩ := h
    rfl
  · obtain ⟨v, d, m, rfl, hd, hf, k⟩ := h
    refine ⟨_, (pss_cons (ps_if (PW.pt (pw_or (pt_not (pt_val (pe_callB (call_isinstanceA K) rfl B.isinstance (by decide +kernel) (pa_cons (pv 0) (pa_cons (pe_bltn (v := .ty "str") rfl B.str (by decide +kernel) rfl) pa_nil))))) (pw_or1 (pt_cmpR op_gtA (pe_callB (call_lenA K) rfl B.len (by decide +kernel) (pa_cons (pv 0) pa_nil)) (pv 1) (nomark _)))))
   (pss_one (ps_ret pe_bl))
   pss_nil)
  (pss_one (ps_ret (pe_callB (call_allA K rfl) rfl B.all (by decide +kernel) (pa_cons (pe_lc (own := [("_law_sign", 2)]) rfl sc_law_is_word.nd (pi_any K (pv 0)) (blkOk_by (N := N_law_is_word) (sc := defScope s_law_is_word) (by decide +kernel)) (fun _ _ _ _ _ => (pg_name (i := 2) sc_law_is_word.nd rfl (Or.inl rfl))) (fun _ _ _ _ _ => pts_nil) (fun _ _ _ _ _ => (pe_cmpR (op_inA K) (pv 2) pe_str (by rfl)))) pa_nil))))), ?_⟩
    cases hd with
    | lst s r => walk_at "rd"; refine r_isi_lst_str s ?_; walk_at "rx"; exact k _ (Evl.Ex.refl _)
    | tup s r => walk_at "rd"; refine r_isi_tup_str s ?_; walk_at "rx"; exact k _ (Evl.Ex.refl _)
    | str z =>
      have hz := (fit_str hf).1
      walk_at "rx"
      refine r_lenS (by rw [sizeLine_eq]; omega) ?_
      walk_at "rx"
      rw [isWordD, isWordS] at k
      refine iteD (fun h1 => ?_) (fun h1 => ?_)
      · walk_at "rx"
        have := k _ (Evl.Ex.refl _)
        rw [decide_eq_false (by omega), Bool.false_and] at this
        exact this
      · walk_at "rx"
        rw [decide_eq_true (show (z.length : Int) ≤ m by omega), Bool.true_and] at k
        refine .inr (.inr ⟨z, rfl, ?_⟩)
        intro D hD
        refine lc_str (z := z) hD (fun c => .bl (decide (c ∈ smallL))) ?_ ?_ ?_ ?_
        · exact fun _ => rfl
        · omega
        · intro c hc H' e1 Q' q
          walk_at "rd"
          rw [smallE3]
          exact q _ (Evl.Ex.refl _)
        · intro H' e1 hD2
          walk_at "rd"
          refine r_all (bs := z.cps.toList.map fun c => decide (c ∈ smallL)) (by rw [hD2, List.map_map]; rfl) ?_
          rw [List.all_map]
          exact k _ e1
    | _ => walk_at "rx"; exact k _ (Evl.Ex.refl _)
end

abbrev s_law_is_integer : Stmt := top 22
abbrev N_law_is_integer : List Str := ["_law_thing"]
theorem sc_law_is_integer : FnScope N_law_is_integer ["_law_thing"] (defScope s_law_is_integer) := ⟨rfl, rfl, rfl, by decide +kernel, rfl, by decide +kernel, by decide +kernel⟩
section
variable {P : Program} {w : World} {K : PySem.W.Frag} {mg : Str → Option Value} {base : Heap}
theorem c_law_is_integer_ (F : At K mg "_law_is_integer" s_law_is_integer) (B : Bl mg) : Cal P w K mg base 1 "_law_is_integer" (spB1 K isIntD) := by
  refine cal_of F sc_law_is_integer (fun vs H Q E h => ?_) (fun _ _ _ _ _ _ us hl => match us, hl with | [_], _ => rfl) (fun f cdv A outer s H vs Q E hr h => ?_)
  · obtain ⟨v, d, rfl, _⟩ := h
    rfl
  · obtain ⟨v, d, rfl, hd, hf, k⟩ := h
    refine ⟨_, (pss_one (ps_ret (pe_and (pe_callB (call_isinstanceA K) rfl B.isinstance (by decide +kernel) (pa_cons (pv 0) (pa_cons (pe_bltn (v := .ty "int") rfl B.int (by decide +kernel) rfl) pa_nil))) (pe_one (pe_not (pe_callB (call_isinstanceA K) rfl B.isinstance (by decide +kernel) (pa_cons (pv 0) (pa_cons (pe_bltn (v := .ty "bool") rfl B.bool (by decide +kernel) rfl) pa_nil)))))))), ?_⟩
    cases hd with
    | lst s r => walk_at "rd"; refine r_isi_lst_int s ?_; walk_at "rx"; exact k _ (Evl.Ex.refl _)
    | tup s r => walk_at "rd"; refine r_isi_tup_int s ?_; walk_at "rx"; exact k _ (Evl.Ex.refl _)
    | _ => walk_at "rx"; exact k _ (Evl.Ex.refl _)
end

end WP

set_option Elab.async false
set_option linter.all false
set_option maxRecDepth 100000
set_option maxHeartbeats 4000000
namespace WP
open PySem PySem.Spec PyProof.Rows L2
local macro_rules | `(tactic| walk_at "rd") => `(tactic| repeat (first
  | with_reducible refine r_seq ?_ | with_reducible refine r_par3 ?_ | with_reducible refine r_callR ?_ | with_reducible refine r_callS ?_ | with_reducible refine r_enumA ?_ | with_reducible refine r_mkO ?_ | with_reducible refine r_raise ?_ | with_reducible refine r_callW ?_ | with_reducible refine r_tru ?_ | with_reducible refine r_var rfl ?_ | with_reducible refine r_c ?_ | with_reducible refine r_op ?_ | with_reducible refine r_cons ?_ | with_reducible refine r_nil ?_
  | with_reducible refine r_cb ?_ | with_reducible refine r_call ?_ | with_reducible refine r_test ?_ | with_reducible refine r_B ?_ | with_reducible refine r_bl ?_ | with_reducible refine r_asg ?_ | with_reducible refine r_asgS ?_
  | with_reducible refine r_ret ?_ | with_reducible refine r_drop ?_ | with_reducible refine r_ifS ?_ | with_reducible refine r_if ?_ | with_reducible refine r_and ?_ | with_reducible refine r_or ?_ | with_reducible refine r_not ?_
  | with_reducible refine r_andV ?_ | with_reducible refine r_orV ?_ | with_reducible refine r_notV ?_ | with_reducible refine r_chain ?_ | with_reducible refine r_sl ?_ | with_reducible refine r_nopart ?_ | with_reducible refine r_part ?_
  | with_reducible refine r_intO ?_ | with_reducible refine r_two ?_ | with_reducible refine r_m1 ?_ | with_reducible refine r_bm ?_ | with_reducible refine r_next ?_ | with_reducible refine r_gCons ?_ | with_reducible refine r_gNil ?_ | with_reducible refine r_asgT ?_ | with_reducible refine r_for ?_ | with_reducible refine r_rng1 ?_ | with_reducible refine r_iList ?_ | with_reducible refine r_iAny ?_ | with_reducible refine r_lc ?_ | with_reducible refine r_yes ?_ | with_reducible refine r_gN ?_ | with_reducible refine r_par ?_ | with_reducible refine r_un ?_ | with_reducible refine r_brk ?_ | with_reducible refine r_cont ?_
  | with_reducible refine r_I0 ?_ | with_reducible refine r_U ?_ | with_reducible refine r_addI ?_ | with_reducible refine r_abs ?_ | with_reducible refine r_intI ?_ | with_reducible refine r_max2 ?_ | with_reducible refine r_min2 ?_
  | with_reducible refine r_ltI ?_ | with_reducible refine r_leI ?_ | with_reducible refine r_gtI ?_ | with_reducible refine r_geI ?_ | with_reducible refine r_isN_non ?_ | with_reducible refine r_isN_int ?_ | with_reducible refine r_isN_str ?_ | with_reducible refine r_isN_bl ?_ | with_reducible refine r_isN_ref ?_ | with_reducible refine r_isN ?_ | with_reducible refine r_isB ?_ | with_reducible refine r_isnotN_non ?_ | with_reducible refine r_isnotN_int ?_ | with_reducible refine r_isnotN_str ?_ | with_reducible refine r_isnotN_bl ?_ | with_reducible refine r_isnotN_ref ?_ | with_reducible refine r_isnotN ?_ | with_reducible refine r_isnotB ?_
  | with_reducible refine r_inS ?_ | with_reducible refine r_eqS rfl ?_ | with_reducible refine r_neS rfl ?_ | with_reducible refine r_lst ?_ | with_reducible refine r_tup ?_ | with_reducible refine iteT ?_ | with_reducible refine iteF ?_))
local macro_rules | `(tactic| walk_at "isi") => `(tactic| (first
  | with_reducible refine r_isi_non_int ?_
  | with_reducible refine r_isi_non_str ?_
  | with_reducible refine r_isi_non_list ?_
  | with_reducible refine r_isi_non_tuple ?_
  | with_reducible refine r_isi_non_bool ?_
  | with_reducible refine r_isi_bl_int ?_
  | with_reducible refine r_isi_bl_str ?_
  | with_reducible refine r_isi_bl_list ?_
  | with_reducible refine r_isi_bl_tuple ?_
  | with_reducible refine r_isi_bl_bool ?_
  | with_reducible refine r_isi_int_int ?_
  | with_reducible refine r_isi_int_str ?_
  | with_reducible refine r_isi_int_list ?_
  | with_reducible refine r_isi_int_tuple ?_
  | with_reducible refine r_isi_int_bool ?_
  | with_reducible refine r_isi_str_int ?_
  | with_reducible refine r_isi_str_str ?_
  | with_reducible refine r_isi_str_list ?_
  | with_reducible refine r_isi_str_tuple ?_
  | with_reducible refine r_isi_str_bool ?_
  | with_reducible refine r_isi_lst_int (SqL.of (by assumption)) ?_
  | with_reducible refine r_isi_lst_str (SqL.of (by assumption)) ?_
  | with_reducible refine r_isi_lst_list (SqL.of (by assumption)) ?_
  | with_reducible refine r_isi_lst_tuple (SqL.of (by assumption)) ?_
  | with_reducible refine r_isi_lst_bool (SqL.of (by assumption)) ?_
  | with_reducible refine r_isi_tup_int (SqT.of (by assumption)) ?_
  | with_reducible refine r_isi_tup_str (SqT.of (by assumption)) ?_
  | with_reducible refine r_isi_tup_list (SqT.of (by assumption)) ?_
  | with_reducible refine r_isi_tup_tuple (SqT.of (by assumption)) ?_
  | with_reducible refine r_isi_tup_bool (SqT.of (by assumption)) ?_))
local macro_rules | `(tactic| walk_at "rs") => `(tactic| (first
  | ((with_reducible refine iteTc ?hc ?_); (case hc => rfl)) | ((with_reducible refine iteFc ?hc ?_); (case hc => rfl))
  | walk_at "isi"
  | refine r_ixL (SqL.of (by assumption)) rfl ?_ | refine r_ixL (SqL.of upd_same) rfl ?_
  | refine r_I (C := fun _ j => 0 < j) (by first | decide | assumption | omega) ?_
  | refine r_mulI (.inl ⟨by decide, by decide⟩) ?_ | refine r_mulI (.inr ⟨by decide, by decide⟩) ?_ | refine r_mulI (.inr ⟨by omega, by omega⟩) ?_ | refine r_mulI (.inl ⟨by omega, by omega⟩) ?_
  | refine r_I (wide_div (b := 64) (by decide) (by decide) (by decide) (by decide)) ?_
  | refine r_I (C := CPow) ⟨by decide, by decide, by decide⟩ ?_
  | refine r_setL (by assumption) rfl ?_ | refine r_setL upd_same rfl ?_))
local macro_rules | `(tactic| walk_at "rx") => `(tactic| (walk_at "rd"; (repeat (walk_at "rs"; walk_at "rd"))))

abbrev s_law_is_name : Stmt := top 21
abbrev N_law_is_name : List Str := ["_law_thing"]
theorem sc_law_is_name : FnScope N_law_is_name ["_law_thing"] (defScope s_law_is_name) := ⟨rfl, rfl, rfl, by decide +kernel, rfl, by decide +kernel, by decide +kernel⟩
section
variable {P : Program} {w : World} {K : PySem.W.Frag} {mg : Str → Option Value} {base : Heap}
theorem c_law_is_name_ (F : At K mg "_law_is_name" s_law_is_name) (B : Bl mg) (c_law_is_word : Cal P w K mg base 1 "_law_is_word" (spLWord K)) (c_law_keywords : Cal P w K mg base 1 "_law_keywords" spKw) : Cal P w K mg base 2 "_law_is_name" (spB1 K isNameD) := by
  refine cal_of F sc_law_is_name (fun vs H Q E h => ?_) (fun _ _ _ _ _ _ us hl => match us, hl with | [_], _ => rfl) (fun f cdv A outer s H vs Q E hr h => ?_)
  · obtain ⟨v, d, rfl, _⟩ := h
    rfl
  · obtain ⟨v, d, rfl, hd, hf, k⟩ := h
    refine ⟨_, (pss_one (ps_ret (pe_and (pe_cA c_law_is_word hr (by omega) rfl (pa_cons (pv 0) (pa_cons pe_int pa_nil))) (pe_and (pe_cmpR (op_neA K hr.units) (pv 0) pe_str (nomark _)) (pe_one (pe_cmpR (op_notInA K) (pv 0) (pe_cA0 c_law_keywords hr (by omega) rfl) (by rfl))))))), ?_⟩
    walk_at "rd"
    refine ⟨v, d, 12, rfl, hd, hf, fun H1 e1 => ?_⟩
    cases hd with
    | str z =>
      replace k : ∀ H', Evl.Ex H H' → Q (.bl (isWordL (tl z) 12 && (decide (tl z ≠ []) && !(kwS.any fun k => decide (tl k = tl z))))) H' := k
      have e : isWordD 12 (.str z) = isWordL (tl z) 12 := isWordS_L z 12
      rw [e]
      walk_at "rd"
      refine iteB (fun h1 => ?_) (fun h1 => ?_)
      · rw [h1, Bool.true_and] at k
        walk_at "rd"
        refine iteND (fun h2 => ?_) (fun h2 => ?_)
        · rw [decide_eq_true (show tl z ≠ [] from fun e => h2 (by rw [tl_ext (y := "") (e.trans (by decide +kernel))])), Bool.true_and] at k
          walk_at "rd"
          refine ⟨rfl, fun q hq => ?_⟩
          refine .inr ⟨q, _, rfl, .inl (SqL.of upd_same), rfl, any_flat kwS, ?_⟩
          rw [in_strs]
          exact k _ (e1.trans (Evl.Ex.new hq))
        · rw [decide_eq_false (show ¬ tl z ≠ [] from fun e => e (by injection h2 with h2; rw [h2]; decide +kernel)), Bool.false_and] at k
          walk_at "rd"
          exact k _ e1
      · rw [h1, Bool.false_and] at k
        walk_at "rd"
        exact k _ e1
    | _ => walk_at "rx"; exact k _ e1
end

abbrev s_law_is_constant : Stmt := top 23
abbrev N_law_is_constant : List Str := ["_law_thing"]
theorem sc_law_is_constant : FnScope N_law_is_constant ["_law_thing"] (defScope s_law_is_constant) := ⟨rfl, rfl, rfl, by decide +kernel, rfl, by decide +kernel, by decide +kernel⟩
section
variable {P : Program} {w : World} {K : PySem.W.Frag} {mg : Str → Option Value} {base : Heap}
theorem c_law_is_constant_ (F : At K mg "_law_is_constant" s_law_is_constant) (B : Bl mg) (c_law_is_integer : Cal P w K mg base 1 "_law_is_integer" (spB1 K isIntD)) (c_law_is_word : Cal P w K mg base 1 "_law_is_word" (spLWord K)) : Cal P w K mg base 2 "_law_is_constant" (spCn K) := by
  refine cal_of F sc_law_is_constant (fun vs H Q E h => ?_) (fun _ _ _ _ _ _ us hl => match us, hl with | [_], _ => rfl) (fun f cdv A outer s H vs Q E hr h => ?_)
  · obtain ⟨v, d, rfl, _⟩ := h
    rfl
  · obtain ⟨v, d, rfl, hd, hf, k⟩ := h
    refine ⟨_, (pss_cons (ps_if (pt_val (pe_cA c_law_is_integer hr (by omega) rfl (pa_cons (pv 0) pa_nil)))
   (pss_one (ps_ret (pe_cmpR op_ltA (pe_callB call_absA rfl B.abs (by decide +kernel) (pa_cons (pv 0) pa_nil)) (pe_op op_pow pe_int pe_int) (nomark _))))
   pss_nil)
  (pss_one (ps_ret (pe_or (pe_cmpR op_isA (pv 0) pe_non (nomark _)) (pe_one (pe_cA c_law_is_word hr (by omega) rfl (pa_cons (pv 0) (pa_cons pe_int pa_nil)))))))), ?_⟩
    cases hd with
    | non =>
      walk_at "rx"
      refine ⟨_, _, rfl, .non, hf, fun H1 e1 => ?_⟩
      walk_at "rx"
      exact k _ e1
    | int i =>
      walk_at "rx"
      refine ⟨_, _, rfl, .int i, hf, fun H1 e1 => ?_⟩
      walk_at "rx"
      have e : isCnst (.int i) = decide ((if i < 0 then -i else i) < 10 ^ 30) := abs_lt.symm
      rw [e] at k
      exact k _ e1
    | bl b =>
      walk_at "rx"
      refine ⟨_, _, rfl, .bl b, hf, fun H1 e1 => ?_⟩
      walk_at "rx"
      refine ⟨_, _, _, rfl, .bl b, hf, fun H2 e2 => k _ (e1.trans e2)⟩
    | str z =>
      walk_at "rx"
      refine ⟨_, _, rfl, .str z, hf, fun H1 e1 => ?_⟩
      walk_at "rx"
      refine ⟨_, _, _, rfl, .str z, hf, fun H2 e2 => k _ (e1.trans e2)⟩
    | lst s r =>
      walk_at "rx"
      refine ⟨_, _, rfl, .lst s r, hf, fun H1 e1 => ?_⟩
      walk_at "rx"
      refine ⟨_, _, _, rfl, Dp.mono e1 (.lst s r), hf, fun H2 e2 => k _ (e1.trans e2)⟩
    | tup s r =>
      walk_at "rx"
      refine ⟨_, _, rfl, .tup s r, hf, fun H1 e1 => ?_⟩
      walk_at "rx"
      refine ⟨_, _, _, rfl, Dp.mono e1 (.tup s r), hf, fun H2 e2 => k _ (e1.trans e2)⟩
end

abbrev s_law_value : Stmt := top 28
abbrev N_law_value : List Str := ["_law_bag_here"]
theorem sc_law_value : FnScope N_law_value ["_law_bag_here"] (defScope s_law_value) := ⟨rfl, rfl, rfl, by decide +kernel, rfl, by decide +kernel, by decide +kernel⟩
def spVal (K : PySem.W.Frag) : Sp := fun vs H Q _ => ∃ (b : Addr) (n : Nat), vs = [.ref b] ∧ Bag b n H ∧ n + 30 < 1000000000000 ∧ ∀ (v : V) (H' : Hp), Dv K (nov H H') 1 v → Drw b (n + 30) H H' → Q v H'
section
variable {P : Program} {w : World} {K : PySem.W.Frag} {mg : Str → Option Value} {base : Heap}
theorem mulOk_v {z : Str} {n : Int} (h0 : 1 < n) (h1 : n ≤ 100000) (h2 : z.length = 1) : MulOk z n := by
  refine ⟨?_, fun _ _ => ?_, fun _ _ => ?_⟩
  · have a : ¬ n < -(2 ^ 63 : Int) := by omega
    have b : ¬ n ≥ (2 ^ 63 : Int) := by omega
    rw [decide_eq_false a, decide_eq_false b]; rfl
  · rw [h2]
    have : (1 : Int) ≤ (2 ^ 63 - 1) / n := by
      rw [Int.le_ediv_iff_mul_le (by omega)]
      omega
    omega
  · rw [h2]
    exact decide_eq_false (by rw [sizeLine_eq]; omega)
theorem cst_dv {H : Hp} {v : V} (h : Cst v) : Dv K H 1 v := by
  cases v with
  | non => exact dv_non
  | int i => exact dv_int
  | str z =>
    have h : Word 8 z := h
    exact dv_str (by have := h.1; omega) (word_ok h)
  | _ => exact h.elim
theorem c_value (F : At K mg "_law_value" s_law_value) (B : Bl mg) (c_law_take : Cal P w K mg base 1 "_law_take" spTake) (c_law_of : Cal P w K mg base 2 "_law_of" (spOf K)) (c_law_any_constant : Cal P w K mg base 4 "_law_any_constant" spConst) : Cal P w K mg base 5 "_law_value" (spVal K) := by
  refine cal_of F sc_law_value (fun vs H Q E h => ?_) (fun _ _ _ _ _ _ us hl => match us, hl with | [_], _ => rfl) (fun f cdv A outer s H vs Q E hr h => ?_)
  · obtain ⟨b, n, rfl, _⟩ := h
    rfl
  · obtain ⟨b, n, rfl, hb, hn, kk⟩ := h
    refine ⟨_, (pss_cons (ps_if (pt_cmpR op_gtA (pe_cA c_law_take hr (by omega) rfl (pa_cons (pv 0) (pa_cons pe_int pa_nil))) pe_int (nomark _))
   (pss_one (ps_ret (pe_cA c_law_any_constant hr (by omega) rfl (pa_cons (pv 0) pa_nil))))
   pss_nil)
  (pss_one (ps_ret (pe_cA c_law_of hr (by omega) rfl (pa_cons (pv 0) (pa_cons (pe_lst (pa_cons pe_bl (pa_cons pe_bl (pa_cons (pe_op op_pow pe_int pe_int) (pa_cons (pe_un un_neg (pe_op op_pow pe_int pe_int)) (pa_cons (pe_op op_mulA pe_str pe_int) (pa_cons pe_str (pa_cons pe_str (pa_cons pe_str (pa_cons (pe_tup pa_nil) (pa_cons (pe_lst pa_nil) (pa_cons (pe_lst (pa_cons pe_int pa_nil)) (pa_cons (pe_tup (pa_cons pe_non pa_nil)) pa_nil))))))))))))) pa_nil)))))), ?_⟩
    walk_at "rd"
    refine ⟨b, _, n, rfl, hb, by omega, by decide, by decide, fun d H1 hd0 hd1 r1 => ?_⟩
    walk_at "rd"
    refine iteD (fun h1 => ?_) (fun h1 => ?_)
    · walk_at "rd"
      refine ⟨b, _, rfl, r1.bag, by omega, fun v H2 hv r2 => kk _ _ (cst_dv hv) ((r1.trans r2).mono (by omega))⟩
    · walk_at "rd"
      refine r_I (C := CPow) ⟨by decide, by decide, by decide⟩ ?_
      walk_at "rd"
      refine r_I (C := CPow) ⟨by decide, by decide, by decide⟩ ?_
      walk_at "rd"
      refine r_mulS (mulOk_v (by decide) (by decide) (by decide +kernel)) ?_
      walk_at "rd"
      generalize h9 : Txt.mul ("a" : Str) 9 = a9
      have l9 : decide (a9.length ≤ 100000) = true ∧ PyData.strOk a9 = true := by rw [← h9]; exact ⟨by decide +kernel, by decide +kernel⟩
      refine ⟨Nat.zero_le _, fun p1 hp1 => ?_⟩
      obtain ⟨r2, hq1⟩ := r1.bag.new (o := .tup []) hp1
      have n1 : H p1 = none := r1.dom hp1
      walk_at "rd"
      refine ⟨Nat.zero_le _, fun p2 hp2 => ?_⟩
      obtain ⟨r3, hq2⟩ := r2.bag.new (o := .lst []) hp2
      have n2 : H p2 = none := (r1.trans r2).dom hp2
      walk_at "rd"
      refine ⟨by show 1 ≤ sizeLine; decide, fun p3 hp3 => ?_⟩
      obtain ⟨r4, hq3⟩ := r3.bag.new (o := .lst [.int 1]) hp3
      have n3 : H p3 = none := ((r1.trans r2).trans r3).dom hp3
      walk_at "rd"
      refine ⟨by show 1 ≤ sizeLine; decide, fun p4 hp4 => ?_⟩
      obtain ⟨r5, hq4⟩ := r4.bag.new (o := .tup [.non]) hp4
      have n4 : H p4 = none := (((r1.trans r2).trans r3).trans r4).dom hp4
      walk_at "rd"
      refine ⟨by show 12 ≤ sizeLine; decide, fun p hp => ?_⟩
      obtain ⟨r6, hq⟩ := r5.bag.new (o := .lst [.bl true, .bl false, .int (10 ^ Int.toNat 30), .int (-10 ^ Int.toNat 30), .str a9, .str "A", .str "a1", .str "a b", .ref p1, .ref p2, .ref p3, .ref p4]) hp
      walk_at "rd"
      refine ⟨b, _, n + 1, rfl, r6.bag, by omega, .inl ⟨p, _, rfl, .inl (SqL.of hq), by simp, by simp, fun y hy H7 r7 => ?_⟩⟩
      replace r6 := r6.trans r7
      replace r5 := r5.trans r6
      replace r4 := r4.trans r5
      replace r3 := r3.trans r4
      have g1 := nov_of n1 (hid_get (r3.ex _ _ hq1))
      have g2 := nov_of n2 (hid_get (r4.ex _ _ hq2))
      have g3 := nov_of n3 (hid_get (r5.ex _ _ hq3))
      have g4 := nov_of n4 (hid_get (r6.ex _ _ hq4))
      refine kk _ _ ?_ ((r1.trans (r2.trans r3)).mono (by omega))
      simp only [List.mem_cons, List.not_mem_nil, or_false] at hy
      rcases hy with rfl | rfl | rfl | rfl | rfl | rfl | rfl | rfl | rfl | rfl | rfl | rfl
      · exact dv_bl
      · exact dv_bl
      · exact dv_int
      · exact dv_int
      · exact dv_str (of_decide_eq_true l9.1) l9.2
      · exact dv_str (by decide +kernel) (by decide +kernel)
      · exact dv_str (by decide +kernel) (by decide +kernel)
      · exact dv_str (by decide +kernel) (by decide +kernel)
      · exact dv_tup (m := 0) (SqT.of g1) (fun v hv => by cases hv) (by simp)
      · exact dv_lst (m := 0) (SqL.of g2) (fun v hv => by cases hv) (by simp)
      · exact dv_lst (m := 0) (SqL.of g3) (fun v hv => by rw [List.mem_singleton.mp hv]; exact dv_int) (by simp)
      · exact dv_tup (m := 0) (SqT.of g4) (fun v hv => by rw [List.mem_singleton.mp hv]; exact dv_non) (by simp)
end

end WP

set_option Elab.async false
set_option linter.all false
set_option maxRecDepth 100000
set_option maxHeartbeats 4000000
namespace WP
open PySem PySem.Spec PyProof.Rows L2
local macro_rules | `(tactic| walk_at "rd") => `(tactic| repeat (first
  | with_reducible refine r_seq ?_ | with_reducible refine r_par3 ?_ | with_reducible refine r_callR ?_ | with_reducible refine r_callS ?_ | with_reducible refine r_enumA ?_ | with_reducible refine r_mkO ?_ | with_reducible refine r_raise ?_ | with_reducible refine r_callW ?_ | with_reducible refine r_tru ?_ | with_reducible refine r_var rfl ?_ | with_reducible refine r_c ?_ | with_reducible refine r_op ?_ | with_reducible refine r_cons ?_ | with_reducible refine r_nil ?_
  | with_reducible refine r_cb ?_ | with_reducible refine r_call ?_ | with_reducible refine r_test ?_ | with_reducible refine r_B ?_ | with_reducible refine r_bl ?_ | with_reducible refine r_asg ?_ | with_reducible refine r_asgS ?_
  | with_reducible refine r_ret ?_ | with_reducible refine r_drop ?_ | with_reducible refine r_ifS ?_ | with_reducible refine r_if ?_ | with_reducible refine r_and ?_ | with_reducible refine r_or ?_ | with_reducible refine r_not ?_
  | with_reducible refine r_andV ?_ | with_reducible refine r_orV ?_ | with_reducible refine r_notV ?_ | with_reducible refine r_chain ?_ | with_reducible refine r_sl ?_ | with_reducible refine r_nopart ?_ | with_reducible refine r_part ?_
  | with_reducible refine r_intO ?_ | with_reducible refine r_two ?_ | with_reducible refine r_m1 ?_ | with_reducible refine r_bm ?_ | with_reducible refine r_next ?_ | with_reducible refine r_gCons ?_ | with_reducible refine r_gNil ?_ | with_reducible refine r_asgT ?_ | with_reducible refine r_for ?_ | with_reducible refine r_rng1 ?_ | with_reducible refine r_iList ?_ | with_reducible refine r_iAny ?_ | with_reducible refine r_lc ?_ | with_reducible refine r_yes ?_ | with_reducible refine r_gN ?_ | with_reducible refine r_par ?_ | with_reducible refine r_un ?_ | with_reducible refine r_brk ?_ | with_reducible refine r_cont ?_
  | with_reducible refine r_I0 ?_ | with_reducible refine r_U ?_ | with_reducible refine r_addI ?_ | with_reducible refine r_abs ?_ | with_reducible refine r_intI ?_ | with_reducible refine r_max2 ?_ | with_reducible refine r_min2 ?_
  | with_reducible refine r_ltI ?_ | with_reducible refine r_leI ?_ | with_reducible refine r_gtI ?_ | with_reducible refine r_geI ?_ | with_reducible refine r_isN_non ?_ | with_reducible refine r_isN_int ?_ | with_reducible refine r_isN_str ?_ | with_reducible refine r_isN_bl ?_ | with_reducible refine r_isN_ref ?_ | with_reducible refine r_isN ?_ | with_reducible refine r_isB ?_ | with_reducible refine r_isnotN_non ?_ | with_reducible refine r_isnotN_int ?_ | with_reducible refine r_isnotN_str ?_ | with_reducible refine r_isnotN_bl ?_ | with_reducible refine r_isnotN_ref ?_ | with_reducible refine r_isnotN ?_ | with_reducible refine r_isnotB ?_
  | with_reducible refine r_inS ?_ | with_reducible refine r_eqS rfl ?_ | with_reducible refine r_neS rfl ?_ | with_reducible refine r_lst ?_ | with_reducible refine r_tup ?_ | with_reducible refine iteT ?_ | with_reducible refine iteF ?_))
local macro_rules | `(tactic| walk_at "isi") => `(tactic| (first
  | with_reducible refine r_isi_non_int ?_
  | with_reducible refine r_isi_non_str ?_
  | with_reducible refine r_isi_non_list ?_
  | with_reducible refine r_isi_non_tuple ?_
  | with_reducible refine r_isi_non_bool ?_
  | with_reducible refine r_isi_bl_int ?_
  | with_reducible refine r_isi_bl_str ?_
  | with_reducible refine r_isi_bl_list ?_
  | with_reducible refine r_isi_bl_tuple ?_
  | with_reducible refine r_isi_bl_bool ?_
  | with_reducible refine r_isi_int_int ?_
  | with_reducible refine r_isi_int_str ?_
  | with_reducible refine r_isi_int_list ?_
  | with_reducible refine r_isi_int_tuple ?_
  | with_reducible refine r_isi_int_bool ?_
  | with_reducible refine r_isi_str_int ?_
  | with_reducible refine r_isi_str_str ?_
  | with_reducible refine r_isi_str_list ?_
  | with_reducible refine r_isi_str_tuple ?_
  | with_reducible refine r_isi_str_bool ?_
  | with_reducible refine r_isi_lst_int (SqL.of (by assumption)) ?_
  | with_reducible refine r_isi_lst_str (SqL.of (by assumption)) ?_
  | with_reducible refine r_isi_lst_list (SqL.of (by assumption)) ?_
  | with_reducible refine r_isi_lst_tuple (SqL.of (by assumption)) ?_
  | with_reducible refine r_isi_lst_bool (SqL.of (by assumption)) ?_
  | with_reducible refine r_isi_tup_int (SqT.of (by assumption)) ?_
  | with_reducible refine r_isi_tup_str (SqT.of (by assumption)) ?_
  | with_reducible refine r_isi_tup_list (SqT.of (by assumption)) ?_
  | with_reducible refine r_isi_tup_tuple (SqT.of (by assumption)) ?_
  | with_reducible refine r_isi_tup_bool (SqT.of (by assumption)) ?_))
local macro_rules | `(tactic| walk_at "rs") => `(tactic| (first
  | ((with_reducible refine iteTc ?hc ?_); (case hc => rfl)) | ((with_reducible refine iteFc ?hc ?_); (case hc => rfl))
  | walk_at "isi"
  | refine r_ixL (SqL.of (by assumption)) rfl ?_ | refine r_ixL (SqL.of upd_same) rfl ?_
  | refine r_I (C := fun _ j => 0 < j) (by first | decide | assumption | omega) ?_
  | refine r_mulI (.inl ⟨by decide, by decide⟩) ?_ | refine r_mulI (.inr ⟨by decide, by decide⟩) ?_ | refine r_mulI (.inr ⟨by omega, by omega⟩) ?_ | refine r_mulI (.inl ⟨by omega, by omega⟩) ?_
  | refine r_I (wide_div (b := 64) (by decide) (by decide) (by decide) (by decide)) ?_
  | refine r_I (C := CPow) ⟨by decide, by decide, by decide⟩ ?_
  | refine r_setL (by assumption) rfl ?_ | refine r_setL upd_same rfl ?_))
local macro_rules | `(tactic| walk_at "rx") => `(tactic| (walk_at "rd"; (repeat (walk_at "rs"; walk_at "rd"))))

abbrev s_law_due : Stmt := top 30
abbrev N_law_due : List Str := ["_law_name", "_law_some", "_law_at"]
theorem sc_law_due : FnScope N_law_due ["_law_name", "_law_some"] (defScope s_law_due) := ⟨rfl, rfl, rfl, by decide +kernel, rfl, by decide +kernel, by decide +kernel⟩
abbrev s_law_asked : Stmt := top 29
abbrev N_law_asked : List Str := ["_law_name", "_law_some"]
theorem sc_law_asked : FnScope N_law_asked ["_law_name", "_law_some"] (defScope s_law_asked) := ⟨rfl, rfl, rfl, by decide +kernel, rfl, by decide +kernel, by decide +kernel⟩
def dueV (d : PyData) (xs : List V) : V := if isNameD d = true then (match dueFrom 0 xs with
  | some k => .int k
  | none => .non) else .int (-1)
def spDue (K : PySem.W.Frag) : Sp := fun vs H Q _ => ∃ (nm : V) (d : PyData) (L : Addr) (xs : List V) (ds : List PyData), vs = [nm, .ref L] ∧ Dp K H nm d ∧ fit d = true ∧ SqL K H L xs ∧ DpAll K H xs ds ∧ fitAll ds = true ∧ xs.length ≤ 5 ∧ ∀ H', Evl.Ex H H' → Q (dueV d xs) H'
def spAsk (K : PySem.W.Frag) (C : Addr) : Sp := fun vs H Q E => ∃ (nm : V) (d : PyData) (L : Addr) (xs : List V) (ds : List PyData), vs = [nm, .ref L] ∧ Dp K H nm d ∧ fit d = true ∧ SqL K H L xs ∧ DpAll K H xs ds ∧ fitAll ds = true ∧ xs.length ≤ 5 ∧
  (∀ k : Int, dueV d xs = .int k → ∀ (H' : Hp) (dd : Addr), Evl.Ex H H' → H' dd = none → E (.ref C) (some dd) (upd H' dd (.xd [("at", .int k)]))) ∧
  (dueV d xs = .non → ∀ (z n : Str) (H' : Hp), nm = .str n → tl z = tl n ++ 40 :: (TL.joinL sep (xs.map cstL) ++ [41]) → Evl.Ex H H' → Q (.str z) H')
section
variable {P : Program} {w : World} {K : PySem.W.Frag} {mg : Str → Option Value} {base : Heap} {C : Addr}
theorem c_due (F : At K mg "_law_due" s_law_due) (B : Bl mg) (c_law_is_name : Cal P w K mg base 2 "_law_is_name" (spB1 K isNameD)) (c_law_is_constant : Cal P w K mg base 2 "_law_is_constant" (spCn K)) : Cal P w K mg base 3 "_law_due" (spDue K) := by
  refine cal_of F sc_law_due (fun vs H Q E h => ?_) (fun _ _ _ _ _ _ us hl => match us, hl with | [_, _], _ => rfl) (fun f cdv A outer s H vs Q E hr h => ?_)
  · obtain ⟨nm, d, L, xs, ds, rfl, _⟩ := h
    rfl
  · obtain ⟨nm, d, L, xs, ds, rfl, hd, hf, hs, hds, hfs, hl, k⟩ := h
    refine ⟨_, (pss_cons (ps_if (pt_not (pt_val (pe_cA c_law_is_name hr (by omega) rfl (pa_cons (pv 0) pa_nil))))
   (pss_one (ps_ret (pe_un un_neg pe_int)))
   pss_nil)
  (pss_cons (ps_for PassesOwn.never rfl (pi_range1 rfl B.range (pa_cons (pe_callB (call_lenA K) rfl B.len (by decide +kernel) (pa_cons (pv 1) pa_nil)) pa_nil)) (pg_name (i := 2) sc_law_due.nd rfl (Or.inl rfl))
   (pss_one (ps_if (PW.pt (pw_or (pt_cmpR (op_eqA K hr.units) (pv 2) pe_int (nomark _)) (pw_or1 (pt_not (pt_val (pe_cA c_law_is_constant hr (by omega) rfl (pa_cons (pe_ix (ix_A K) (pv 1) (pv 2) (fun _ _ => rfl)) pa_nil)))))))
   (pss_one (ps_ret (pv 2)))
   pss_nil)))
  (pss_one (ps_ret pe_non)))), ?_⟩
    walk_at "rd"
    refine ⟨_, d, rfl, hd, hf, fun H1 e1 => ?_⟩
    walk_at "rd"
    refine iteNB (fun h1 => ?_) (fun h1 => ?_)
    · have e : dueV d xs = .int (-1) := by unfold dueV; rw [h1]; rfl
      rw [e] at k
      walk_at "rd"
      exact k _ e1
    · have e : dueV d xs = (match dueFrom 0 xs with | some k => .int k | none => .non) := by unfold dueV; rw [if_pos h1]
      rw [e] at k
      walk_at "rd"
      refine r_lenL (Evl.ex_l e1 hs) ?_
      refine ⟨_, rfl, by omega, by omega, for_range (lo := 0) (n := ((xs.length : Int)).toNat) (fun i σ H' => Evl.Ex H H' ∧ dueFrom 0 xs = dueFrom i (xs.drop i) ∧ ∃ w2 : Option V, σ = [some nm, some (.ref L), w2]) ?_ ?_ ?_⟩
      · exact ⟨e1, rfl, _, rfl⟩
      · rintro i σ H2 hi ⟨e2, hdue, w2, rfl⟩
        have hi : i < xs.length := by omega
        rw [due_step hi] at hdue
        walk_at "rd"
        rw [Int.zero_add]
        refine iteD (fun h2 => ?_) (fun h2 => ?_)
        · have h2 : i = 3 := by injection h2 with h2; omega
          rw [if_pos h2] at hdue
          rw [hdue] at k
          walk_at "rd"
          exact k _ e2
        · have h2 : ¬ i = 3 := fun e => h2 (by rw [e]; rfl)
          rw [if_neg h2] at hdue
          have hx : xs[i]? = some (xs.getD i .non) := by rw [List.getD_eq_getElem?_getD, List.getElem?_eq_getElem hi]; rfl
          walk_at "rd"
          refine r_ixL (Evl.ex_l e2 hs) (atI_nat hx) ?_
          walk_at "rd"
          obtain ⟨dx, hdm, hdx⟩ := DpAll.getV hds hx
          refine ⟨_, dx, rfl, Dp.mono e2 hdx, fitAll_mem hfs hdm, fun H4 e4 => ?_⟩
          walk_at "rd"
          refine iteNB (fun h3 => ?_) (fun h3 => ?_)
          · rw [h3] at hdue
            have hdue : dueFrom 0 xs = some i := hdue
            rw [hdue] at k
            walk_at "rd"
            exact k _ (e2.trans e4)
          · rw [h3] at hdue
            walk_at "rd"
            exact ⟨e2.trans e4, hdue, _, rfl⟩
      · rintro σ H2 ⟨e2, hdue, w2, rfl⟩
        rw [show ((xs.length : Int)).toNat = xs.length by omega, List.drop_length] at hdue
        have hdue : dueFrom 0 xs = none := hdue
        rw [hdue] at k
        walk_at "rd"
        exact k _ e2
theorem asked {nm : V} {d : PyData} {xs : List V} {ds : List PyData} {H : Hp} {Q : VK} {E : XK} (hd : Dp K H nm d) (hf : fit d = true) (hds : DpAll K H xs ds) (hfs : fitAll ds = true) (hl : xs.length ≤ 5)
    (k1 : ∀ k : Int, dueV d xs = .int k → ∀ (H' : Hp) (dd : Addr), Evl.Ex H H' → H' dd = none → E (.ref C) (some dd) (upd H' dd (.xd [("at", .int k)])))
    (k2 : dueV d xs = .non → ∀ (z n : Str) (H' : Hp), nm = .str n → tl z = tl n ++ 40 :: (TL.joinL sep (xs.map cstL) ++ [41]) → Evl.Ex H H' → Q (.str z) H') :
    ∃ ws rest, nm :: xs = ws ++ rest ∧ ws.length = ["name"].length ∧ rest.length ≤ sizeLine ∧ ∀ p, H p = Option.none → spCt K C (ws ++ [V.ref p]) (upd H p (.tup rest)) Q E := by
  refine ⟨[nm], xs, rfl, rfl, by rw [sizeLine_eq]; omega, fun p hp => ⟨nm, d, p, xs, ds, rfl, Dp.mono (Evl.Ex.new hp) hd, hf, upd_same, DpAll.mono (Evl.Ex.new hp) hds, hfs, hl, fun h1 H' dd e hdd => ?_, fun h1 k h2 H' dd e hdd => ?_, fun h1 h2 z n H' hn hz e => ?_⟩⟩
  · exact k1 (-1) (by unfold dueV; rw [h1]; rfl) _ _ ((Evl.Ex.new hp).trans e) hdd
  · exact k1 k (by unfold dueV; rw [if_pos h1, h2]) _ _ ((Evl.Ex.new hp).trans e) hdd
  · exact k2 (by unfold dueV; rw [if_pos h1, h2]) z n _ hn hz ((Evl.Ex.new hp).trans e)
theorem c_asked (F : At K mg "_law_asked" s_law_asked) (B : Bl mg) (c_call_text : CalR P w K mg base 3 "call_text" (fun vs H Q E => ∃ ws rest, vs = ws ++ rest ∧ ws.length = ["name"].length ∧ rest.length ≤ sizeLine ∧ ∀ p, H p = Option.none → spCt K C (ws ++ [V.ref p]) (upd H p (.tup rest)) Q E)) : CalX P w K mg base 4 "_law_asked" (spAsk K C) := by
  refine calX_of F sc_law_asked (fun vs H Q E h => ?_) (fun _ _ _ _ _ _ us hl => match us, hl with | [_, _], _ => rfl) (fun f cdv A outer s H vs Q E hr h => ?_)
  · obtain ⟨nm, d, L, xs, ds, rfl, _⟩ := h
    rfl
  · obtain ⟨nm, d, L, xs, ds, rfl, hd, hf, hs, hds, hfs, hl, k1, k2⟩ := h
    have tk : Takes (cxOf (L2.CX P w) P w K mg base N_law_asked "_law_asked" (defScope s_law_asked) f cdv A outer s H E) (fun cls d _ H => E cls d H) := takes_of rfl rfl rfl rfl
    refine ⟨_, (pss_cons (ps_if (pt_cmpR (op_eqA K hr.units) (pe_callB (call_lenA K) rfl B.len (by decide +kernel) (pa_cons (pv 1) pa_nil)) pe_int (nomark _))
   (pss_one (ps_ret (pe_cR c_call_text hr (by omega) rfl tk (pa_cons (pv 0) pa_nil))))
   pss_nil)
  (pss_cons (ps_if (pt_cmpR (op_eqA K hr.units) (pe_callB (call_lenA K) rfl B.len (by decide +kernel) (pa_cons (pv 1) pa_nil)) pe_int (nomark _))
   (pss_one (ps_ret (pe_cR c_call_text hr (by omega) rfl tk (pa_cons (pv 0) (pa_cons (pe_ix (ix_A K) (pv 1) pe_int (fun _ _ => rfl)) pa_nil)))))
   pss_nil)
  (pss_cons (ps_if (pt_cmpR (op_eqA K hr.units) (pe_callB (call_lenA K) rfl B.len (by decide +kernel) (pa_cons (pv 1) pa_nil)) pe_int (nomark _))
   (pss_one (ps_ret (pe_cR c_call_text hr (by omega) rfl tk (pa_cons (pv 0) (pa_cons (pe_ix (ix_A K) (pv 1) pe_int (fun _ _ => rfl)) (pa_cons (pe_ix (ix_A K) (pv 1) pe_int (fun _ _ => rfl)) pa_nil))))))
   pss_nil)
  (pss_cons (ps_if (pt_cmpR (op_eqA K hr.units) (pe_callB (call_lenA K) rfl B.len (by decide +kernel) (pa_cons (pv 1) pa_nil)) pe_int (nomark _))
   (pss_one (ps_ret (pe_cR c_call_text hr (by omega) rfl tk (pa_cons (pv 0) (pa_cons (pe_ix (ix_A K) (pv 1) pe_int (fun _ _ => rfl)) (pa_cons (pe_ix (ix_A K) (pv 1) pe_int (fun _ _ => rfl)) (pa_cons (pe_ix (ix_A K) (pv 1) pe_int (fun _ _ => rfl)) pa_nil)))))))
   pss_nil)
  (pss_cons (ps_if (pt_cmpR (op_eqA K hr.units) (pe_callB (call_lenA K) rfl B.len (by decide +kernel) (pa_cons (pv 1) pa_nil)) pe_int (nomark _))
   (pss_one (ps_ret (pe_cR c_call_text hr (by omega) rfl tk (pa_cons (pv 0) (pa_cons (pe_ix (ix_A K) (pv 1) pe_int (fun _ _ => rfl)) (pa_cons (pe_ix (ix_A K) (pv 1) pe_int (fun _ _ => rfl)) (pa_cons (pe_ix (ix_A K) (pv 1) pe_int (fun _ _ => rfl)) (pa_cons (pe_ix (ix_A K) (pv 1) pe_int (fun _ _ => rfl)) pa_nil))))))))
   pss_nil)
  (pss_one (ps_ret (pe_cR c_call_text hr (by omega) rfl tk (pa_cons (pv 0) (pa_cons (pe_ix (ix_A K) (pv 1) pe_int (fun _ _ => rfl)) (pa_cons (pe_ix (ix_A K) (pv 1) pe_int (fun _ _ => rfl)) (pa_cons (pe_ix (ix_A K) (pv 1) pe_int (fun _ _ => rfl)) (pa_cons (pe_ix (ix_A K) (pv 1) pe_int (fun _ _ => rfl)) (pa_cons (pe_ix (ix_A K) (pv 1) pe_int (fun _ _ => rfl)) pa_nil)))))))))))))), ?_⟩
    match xs, hs, hds, hl, k1, k2 with
    | [], hs, hds, hl, k1, k2 =>
      walk_at "rd"
      refine r_lenL hs ?_
      walk_at "rd"
      refine iteY rfl ?_
      walk_at "rd"
      exact asked hd hf hds hfs hl k1 k2
    | [a0], hs, hds, hl, k1, k2 =>
      walk_at "rd"
      refine r_lenL hs ?_
      walk_at "rd"
      refine iteN (fun e => by injection e with e; simp at e) ?_
      walk_at "rd"
      refine r_lenL hs ?_
      walk_at "rd"
      refine iteY rfl ?_
      walk_at "rd"
      refine r_ixL hs (atI_nat (j := 0) rfl) ?_
      walk_at "rd"
      exact asked hd hf hds hfs hl k1 k2
    | [a0, a1], hs, hds, hl, k1, k2 =>
      walk_at "rd"
      refine r_lenL hs ?_
      walk_at "rd"
      refine iteN (fun e => by injection e with e; simp at e) ?_
      walk_at "rd"
      refine r_lenL hs ?_
      walk_at "rd"
      refine iteN (fun e => by injection e with e; simp at e) ?_
      walk_at "rd"
      refine r_lenL hs ?_
      walk_at "rd"
      refine iteY rfl ?_
      walk_at "rd"
      refine r_ixL hs (atI_nat (j := 0) rfl) ?_
      walk_at "rd"
      refine r_ixL hs (atI_nat (j := 1) rfl) ?_
      walk_at "rd"
      exact asked hd hf hds hfs hl k1 k2
    | [a0, a1, a2], hs, hds, hl, k1, k2 =>
      walk_at "rd"
      refine r_lenL hs ?_
      walk_at "rd"
      refine iteN (fun e => by injection e with e; simp at e) ?_
      walk_at "rd"
      refine r_lenL hs ?_
      walk_at "rd"
      refine iteN (fun e => by injection e with e; simp at e) ?_
      walk_at "rd"
      refine r_lenL hs ?_
      walk_at "rd"
      refine iteN (fun e => by injection e with e; simp at e) ?_
      walk_at "rd"
      refine r_lenL hs ?_
      walk_at "rd"
      refine iteY rfl ?_
      walk_at "rd"
      refine r_ixL hs (atI_nat (j := 0) rfl) ?_
      walk_at "rd"
      refine r_ixL hs (atI_nat (j := 1) rfl) ?_
      walk_at "rd"
      refine r_ixL hs (atI_nat (j := 2) rfl) ?_
      walk_at "rd"
      exact asked hd hf hds hfs hl k1 k2
    | [a0, a1, a2, a3], hs, hds, hl, k1, k2 =>
      walk_at "rd"
      refine r_lenL hs ?_
      walk_at "rd"
      refine iteN (fun e => by injection e with e; simp at e) ?_
      walk_at "rd"
      refine r_lenL hs ?_
      walk_at "rd"
      refine iteN (fun e => by injection e with e; simp at e) ?_
      walk_at "rd"
      refine r_lenL hs ?_
      walk_at "rd"
      refine iteN (fun e => by injection e with e; simp at e) ?_
      walk_at "rd"
      refine r_lenL hs ?_
      walk_at "rd"
      refine iteN (fun e => by injection e with e; simp at e) ?_
      walk_at "rd"
      refine r_lenL hs ?_
      walk_at "rd"
      refine iteY rfl ?_
      walk_at "rd"
      refine r_ixL hs (atI_nat (j := 0) rfl) ?_
      walk_at "rd"
      refine r_ixL hs (atI_nat (j := 1) rfl) ?_
      walk_at "rd"
      refine r_ixL hs (atI_nat (j := 2) rfl) ?_
      walk_at "rd"
      refine r_ixL hs (atI_nat (j := 3) rfl) ?_
      walk_at "rd"
      exact asked hd hf hds hfs hl k1 k2
    | [a0, a1, a2, a3, a4], hs, hds, hl, k1, k2 =>
      walk_at "rd"
      refine r_lenL hs ?_
      walk_at "rd"
      refine iteN (fun e => by injection e with e; simp at e) ?_
      walk_at "rd"
      refine r_lenL hs ?_
      walk_at "rd"
      refine iteN (fun e => by injection e with e; simp at e) ?_
      walk_at "rd"
      refine r_lenL hs ?_
      walk_at "rd"
      refine iteN (fun e => by injection e with e; simp at e) ?_
      walk_at "rd"
      refine r_lenL hs ?_
      walk_at "rd"
      refine iteN (fun e => by injection e with e; simp at e) ?_
      walk_at "rd"
      refine r_lenL hs ?_
      walk_at "rd"
      refine iteN (fun e => by injection e with e; simp at e) ?_
      walk_at "rd"
      refine r_ixL hs (atI_nat (j := 0) rfl) ?_
      walk_at "rd"
      refine r_ixL hs (atI_nat (j := 1) rfl) ?_
      walk_at "rd"
      refine r_ixL hs (atI_nat (j := 2) rfl) ?_
      walk_at "rd"
      refine r_ixL hs (atI_nat (j := 3) rfl) ?_
      walk_at "rd"
      refine r_ixL hs (atI_nat (j := 4) rfl) ?_
      walk_at "rd"
      exact asked hd hf hds hfs hl k1 k2
    | _ :: _ :: _ :: _ :: _ :: _ :: _, hs, hds, hl, k1, k2 => simp at hl
end
end WP

set_option Elab.async false
set_option linter.all false
set_option maxRecDepth 100000
set_option maxHeartbeats 4000000
namespace WP
open PySem PySem.Spec PyProof.Rows L2
local macro_rules | `(tactic| walk_at "rd") => `(tactic| repeat (first
  | with_reducible refine r_seq ?_ | with_reducible refine r_par3 ?_ | with_reducible refine r_callR ?_ | with_reducible refine r_callS ?_ | with_reducible refine r_enumA ?_ | with_reducible refine r_mkO ?_ | with_reducible refine r_raise ?_ | with_reducible refine r_callW ?_ | with_reducible refine r_tru ?_ | with_reducible refine r_var rfl ?_ | with_reducible refine r_c ?_ | with_reducible refine r_op ?_ | with_reducible refine r_cons ?_ | with_reducible refine r_nil ?_
  | with_reducible refine r_cb ?_ | with_reducible refine r_call ?_ | with_reducible refine r_test ?_ | with_reducible refine r_B ?_ | with_reducible refine r_bl ?_ | with_reducible refine r_asg ?_ | with_reducible refine r_asgS ?_
  | with_reducible refine r_ret ?_ | with_reducible refine r_drop ?_ | with_reducible refine r_ifS ?_ | with_reducible refine r_if ?_ | with_reducible refine r_and ?_ | with_reducible refine r_or ?_ | with_reducible refine r_not ?_
  | with_reducible refine r_andV ?_ | with_reducible refine r_orV ?_ | with_reducible refine r_notV ?_ | with_reducible refine r_chain ?_ | with_reducible refine r_sl ?_ | with_reducible refine r_nopart ?_ | with_reducible refine r_part ?_
  | with_reducible refine r_intO ?_ | with_reducible refine r_two ?_ | with_reducible refine r_m1 ?_ | with_reducible refine r_bm ?_ | with_reducible refine r_next ?_ | with_reducible refine r_gCons ?_ | with_reducible refine r_gNil ?_ | with_reducible refine r_asgT ?_ | with_reducible refine r_for ?_ | with_reducible refine r_rng1 ?_ | with_reducible refine r_iList ?_ | with_reducible refine r_iAny ?_ | with_reducible refine r_lc ?_ | with_reducible refine r_yes ?_ | with_reducible refine r_gN ?_ | with_reducible refine r_par ?_ | with_reducible refine r_un ?_ | with_reducible refine r_brk ?_ | with_reducible refine r_cont ?_
  | with_reducible refine r_I0 ?_ | with_reducible refine r_U ?_ | with_reducible refine r_addI ?_ | with_reducible refine r_abs ?_ | with_reducible refine r_intI ?_ | with_reducible refine r_max2 ?_ | with_reducible refine r_min2 ?_
  | with_reducible refine r_ltI ?_ | with_reducible refine r_leI ?_ | with_reducible refine r_gtI ?_ | with_reducible refine r_geI ?_ | with_reducible refine r_isN_non ?_ | with_reducible refine r_isN_int ?_ | with_reducible refine r_isN_str ?_ | with_reducible refine r_isN_bl ?_ | with_reducible refine r_isN_ref ?_ | with_reducible refine r_isN ?_ | with_reducible refine r_isB ?_ | with_reducible refine r_isnotN_non ?_ | with_reducible refine r_isnotN_int ?_ | with_reducible refine r_isnotN_str ?_ | with_reducible refine r_isnotN_bl ?_ | with_reducible refine r_isnotN_ref ?_ | with_reducible refine r_isnotN ?_ | with_reducible refine r_isnotB ?_
  | with_reducible refine r_inS ?_ | with_reducible refine r_eqS rfl ?_ | with_reducible refine r_neS rfl ?_ | with_reducible refine r_lst ?_ | with_reducible refine r_tup ?_ | with_reducible refine iteT ?_ | with_reducible refine iteF ?_))
local macro_rules | `(tactic| walk_at "isi") => `(tactic| (first
  | with_reducible refine r_isi_non_int ?_
  | with_reducible refine r_isi_non_str ?_
  | with_reducible refine r_isi_non_list ?_
  | with_reducible refine r_isi_non_tuple ?_
  | with_reducible refine r_isi_non_bool ?_
  | with_reducible refine r_isi_bl_int ?_
  | with_reducible refine r_isi_bl_str ?_
  | with_reducible refine r_isi_bl_list ?_
  | with_reducible refine r_isi_bl_tuple ?_
  | with_reducible refine r_isi_bl_bool ?_
  | with_reducible refine r_isi_int_int ?_
  | with_reducible refine r_isi_int_str ?_
  | with_reducible refine r_isi_int_list ?_
  | with_reducible refine r_isi_int_tuple ?_
  | with_reducible refine r_isi_int_bool ?_
  | with_reducible refine r_isi_str_int ?_
  | with_reducible refine r_isi_str_str ?_
  | with_reducible refine r_isi_str_list ?_
  | with_reducible refine r_isi_str_tuple ?_
  | with_reducible refine r_isi_str_bool ?_
  | with_reducible refine r_isi_lst_int (SqL.of (by assumption)) ?_
  | with_reducible refine r_isi_lst_str (SqL.of (by assumption)) ?_
  | with_reducible refine r_isi_lst_list (SqL.of (by assumption)) ?_
  | with_reducible refine r_isi_lst_tuple (SqL.of (by assumption)) ?_
  | with_reducible refine r_isi_lst_bool (SqL.of (by assumption)) ?_
  | with_reducible refine r_isi_tup_int (SqT.of (by assumption)) ?_
  | with_reducible refine r_isi_tup_str (SqT.of (by assumption)) ?_
  | with_reducible refine r_isi_tup_list (SqT.of (by assumption)) ?_
  | with_reducible refine r_isi_tup_tuple (SqT.of (by assumption)) ?_
  | with_reducible refine r_isi_tup_bool (SqT.of (by assumption)) ?_))
local macro_rules | `(tactic| walk_at "rs") => `(tactic| (first
  | ((with_reducible refine iteTc ?hc ?_); (case hc => rfl)) | ((with_reducible refine iteFc ?hc ?_); (case hc => rfl))
  | walk_at "isi"
  | refine r_ixL (SqL.of (by assumption)) rfl ?_ | refine r_ixL (SqL.of upd_same) rfl ?_
  | refine r_I (C := fun _ j => 0 < j) (by first | decide | assumption | omega) ?_
  | refine r_mulI (.inl ⟨by decide, by decide⟩) ?_ | refine r_mulI (.inr ⟨by decide, by decide⟩) ?_ | refine r_mulI (.inr ⟨by omega, by omega⟩) ?_ | refine r_mulI (.inl ⟨by omega, by omega⟩) ?_
  | refine r_I (wide_div (b := 64) (by decide) (by decide) (by decide) (by decide)) ?_
  | refine r_I (C := CPow) ⟨by decide, by decide, by decide⟩ ?_
  | refine r_setL (by assumption) rfl ?_ | refine r_setL upd_same rfl ?_))
local macro_rules | `(tactic| walk_at "rx") => `(tactic| (walk_at "rd"; (repeat (walk_at "rs"; walk_at "rd"))))

def spLaw (K : PySem.W.Frag) : Sp := fun vs H Q _ => ∃ (a : Addr) (ns : List Int), vs = [.ref a] ∧ SqL K H a (ns.map V.int) ∧ ns.length ≤ 63 ∧ ∀ H', Q (.bl true) H'
abbrev s_law : Stmt := top 31
abbrev N_law : List Str := ["_law_script", "_law_at", "_law_bag_here", "_law_names", "_law_strange", "_law_name", "_law_some", "_law_turn", "_law_due_here", "_law_got", "_law_told", "e"]
theorem sc_law : FnScope N_law ["_law_script"] (defScope s_law) := ⟨rfl, rfl, rfl, by decide +kernel, rfl, by decide +kernel, by decide +kernel⟩
section
variable {P : Program} {w : World} {K : PySem.W.Frag} {mg : Str → Option Value} {base : Heap} {C : Addr}
theorem dvs_all {G : Hp} {m : Nat} : ∀ {xs : List V}, (∀ v ∈ xs, Dv K G m v) → ∃ ds, DpAll K G xs ds ∧ fitAll ds = true
  | [], _ => ⟨[], .nil, by rw [fitAll]⟩
  | v :: r, h => by
    obtain ⟨d, h1, h2, _⟩ := h v (List.mem_cons_self ..)
    obtain ⟨ds, h3, h4⟩ := dvs_all (xs := r) fun u hu => h u (List.mem_cons_of_mem _ hu)
    exact ⟨d :: ds, .cons h1 h3, by rw [fitAll, h2, h4]; rfl⟩
theorem takes0 {X : Cx} : Takes X (fun _ _ _ _ => False) := fun _ _ x => by
  obtain ⟨_, _, _, _, _, _, _, _, _, _, _, _, _, _, _, _, z⟩ := x
  exact z.elim
theorem c_law {f : Addr} {fd : FuncData} (F : FunD K "law" "law" (defArgs s_law) (defBody s_law) (defScope s_law) [] [] f fd) (B : Bl mg) (c_law_take : Cal P w K mg base 1 "_law_take" spTake) (c_law_of : Cal P w K mg base 2 "_law_of" (spOf K)) (c_law_word : Cal P w K mg base 3 "_law_word" spWord)
    (c_law_any_name : Cal P w K mg base 3 "_law_any_name" spAName) (c_law_keywords : Cal P w K mg base 1 "_law_keywords" spKw) (c_law_bag : Cal P w K mg base 1 "_law_bag" (spBag K)) (c_law_value : Cal P w K mg base 5 "_law_value" (spVal K)) (c_law_due : Cal P w K mg base 3 "_law_due" (spDue K))
    (c_law_asked : CalX P w K mg base 4 "_law_asked" (spAsk K C)) (c_law_call_text : Cal P w K mg base 3 "_law_call_text" (spCText K)) (g_BadCall : mg "BadCall" = some (.ref C)) (hte : PySem.W.exmOne K (.ref C) (.ref C) = some true) (xf_BadCall : XfC K C) (no_BadCall_at : PySem.W.findIn K (.ref C) "at" = some none) : FnOk P w K mg base L2.CX0 7 f fd ["_law_script"] (spLaw K) := by
  refine fnok_of F sc_law (fun vs H Q E h => ?_) (fun cdv A outer s H vs Q E hr h => ?_)
  · obtain ⟨a, ns, rfl, _⟩ := h
    rfl
  · obtain ⟨a, ns, rfl, hs, hns, k⟩ := h
    refine ⟨_, (pss_cons (ps_for PassesOwn.never rfl (pi_range1 rfl B.range (pa_cons (pe_callB (call_max2A rfl) rfl B.max (by decide +kernel) (pa_cons pe_int (pa_cons (pe_callB (call_min2A rfl) rfl B.min (by decide +kernel) (pa_cons pe_int (pa_cons (pe_callB (call_lenA K) rfl B.len (by decide +kernel) (pa_cons (pv 0) pa_nil)) pa_nil))) pa_nil))) pa_nil)) (pg_name (i := 1) sc_law.nd rfl (Or.inl rfl))
   (pss_cons (ps_set (i := 2) sc_law.nd rfl (Or.inr rfl) (pe_cA c_law_bag hr (by omega) rfl (pa_cons (pv 0) (pa_cons (pv 1) pa_nil))))
  (pss_cons (ps_set (i := 3) sc_law.nd rfl (Or.inl rfl) (pe_lst (pa_cons (pe_cA c_law_any_name hr (by omega) rfl (pa_cons (pv 2) pa_nil)) (pa_cons (pe_cA c_law_any_name hr (by omega) rfl (pa_cons (pv 2) pa_nil)) (pa_cons (pe_op (op_addA K) pe_str (pe_cA c_law_word hr (by omega) rfl (pa_cons (pv 2) (pa_cons pe_int pa_nil)))) (pa_cons (pe_cA c_law_any_name hr (by omega) rfl (pa_cons (pv 2) pa_nil)) pa_nil))))))
  (pss_cons (ps_set (i := 4) sc_law.nd rfl (Or.inl rfl) (pe_op (op_addA K) (pe_cA0 c_law_keywords hr (by omega) rfl) (pe_lst (pa_cons pe_str (pa_cons (pe_op op_mulA pe_str pe_int) (pa_cons (pe_op op_mulA pe_str pe_int) (pa_cons pe_str (pa_cons pe_str (pa_cons pe_str (pa_cons pe_non (pa_cons pe_bl (pa_cons pe_int (pa_cons (pe_lst (pa_cons pe_str pa_nil)) pa_nil)))))))))))))
  (pss_cons (ps_set (i := 3) sc_law.nd rfl (Or.inl rfl) (pe_op (op_addA K) (pv 3) (pe_lst (pa_cons (pe_cA c_law_of hr (by omega) rfl (pa_cons (pv 2) (pa_cons (pv 4) pa_nil))) pa_nil))))
  (pss_cons (ps_set (i := 5) sc_law.nd rfl (Or.inl rfl) (pe_cA c_law_of hr (by omega) rfl (pa_cons (pv 2) (pa_cons (pv 3) pa_nil))))
  (pss_cons (ps_setLc (i := 6) (own := [("_law_turn", 7)]) rfl sc_law.nd rfl rfl (sw_true rfl rfl rfl (by decide +kernel)) (pi_range1 rfl B.range (pa_cons (pe_cA c_law_take hr (by omega) rfl (pa_cons (pv 2) (pa_cons pe_int pa_nil))) pa_nil)) (blkOk_by (N := N_law) (sc := defScope s_law) (by decide +kernel)) (fun _ _ _ _ _ => (pg_name (i := 7) sc_law.nd rfl (Or.inl rfl))) (fun _ _ _ _ _ => pts_nil) (fun _ _ _ _ _ => (pe_cA c_law_value hr (by omega) rfl (pa_cons (pv 2) pa_nil))))
  (pss_cons (ps_par3 (i := 8) (j := 9) (l := 10) (by rfl) sc_law.nd rfl rfl rfl (by decide) (by decide) (by decide) rfl rfl rfl (pa_cons (pe_cA c_law_due hr (by omega) rfl (pa_cons (pv 5) (pa_cons (pv 6) pa_nil))) (pa_cons pe_non (pa_cons pe_non pa_nil))) (by rfl))
  (pss_cons (ps_try_as (i := 11) rfl rfl sc_law.nd rfl rfl ⟨rfl, by decide, Or.inl g_BadCall⟩ takes0 (fun W pn xe tk _ => (pss_one (ps_set (i := 10) sc_law.nd rfl (Or.inl rfl) (pe_cX c_law_asked hr (by omega) rfl tk (pa_cons (pv 5) (pa_cons (pv 6) pa_nil))))))
  (fun a oe cls d pn hz hf => (pss_one (ps_set (i := 9) sc_law.nd rfl (Or.inl rfl) (pe_xf xf_BadCall no_BadCall_at hz hf (pv 11))))))
  (pss_cons (ps_if (PW.pt (pw_or (pt_cmpR (op_neA K hr.units) (pv 9) (pv 8) (nomark _)) (pw_or1 (pt_val (pe_callB (call_isinstanceA K) rfl B.isinstance (by decide +kernel) (pa_cons (pv 9) (pa_cons (pe_bltn (v := .ty "bool") rfl B.bool (by decide +kernel) rfl) pa_nil)))))))
   (pss_one (ps_ret pe_bl))
   pss_nil)
  (pss_one (ps_if (PW.pt (pw_and (pt_cmpR op_isA (pv 8) pe_non (nomark _)) (pw_and1 (PW.pt (pw_or (pt_not (pt_val (pe_callB (call_isinstanceA K) rfl B.isinstance (by decide +kernel) (pa_cons (pv 10) (pa_cons (pe_bltn (v := .ty "str") rfl B.str (by decide +kernel) rfl) pa_nil))))) (pw_or1 (pt_cmpR (op_neA K hr.units) (pv 10) (pe_cA c_law_call_text hr (by omega) rfl (pa_cons (pv 5) (pa_cons (pv 6) pa_nil))) (nomark _))))))))
   (pss_one (ps_ret pe_bl))
   pss_nil))))))))))))
  (pss_one (ps_ret pe_bl))), ?_⟩
    walk_at "rd"
    refine r_lenL hs ?_
    walk_at "rd"
    rw [List.length_map]
    generalize hN : (if (if (ns.length : Int) < 16 then (ns.length : Int) else 16) > 1 then (if (ns.length : Int) < 16 then (ns.length : Int) else 16) else 1) = N
    have hN1 : N ≤ 63 := by rw [← hN]; split <;> split <;> omega
    have hN0 : 0 ≤ N := by rw [← hN]; split <;> split <;> omega
    refine ⟨_, rfl, by omega, by omega, for_range (lo := 0) (n := N.toNat) (fun i σ H' => (∃ w1 w2 w3 w4 w5 w6 w7 w8 w9 w10 w11 : Option V, σ = [some (.ref a), w1, w2, w3, w4, w5, w6, w7, w8, w9, w10, w11]) ∧ Evl.Ex H H') ?_ ?_ ?_⟩
    · exact ⟨⟨_, _, _, _, _, _, _, _, _, _, _, rfl⟩, Evl.Ex.refl _⟩
    · rintro i σ H0 hi ⟨⟨w1, w2, w3, w4, w5, w6, w7, w8, w9, w10, w11, rfl⟩, e0⟩
      walk_at "rd"
      refine ⟨a, ns, i, by rw [Int.zero_add]; rfl, Evl.ex_l e0 hs, by omega, hns, fun b l hb hl => ?_⟩
      have eb : hid b (upd H0 b (.lst l)) = H0 := hid_start hb
      generalize hH1 : upd H0 b (.lst l) = H1 at eb
      have b1 : Bag b 0 H1 := ⟨l, by rw [← hH1]; exact upd_same, hl⟩
      clear hH1
      walk_at "rd"
      refine ⟨b, _, rfl, b1, by omega, fun z1 H2 hz1 r2 => ?_⟩
      walk_at "rd"
      refine ⟨b, _, rfl, r2.bag, by omega, fun z2 H3 hz2 r3 => ?_⟩
      replace r3 := r2.trans r3
      walk_at "rd"
      refine ⟨b, 3, _, rfl, r3.bag, by omega, by omega, fun z3 H4 hz3 r4 => ?_⟩
      replace r4 := r3.trans r4
      walk_at "rd"
      have hz3l := hz3.1
      refine r_addS (by rw [sizeLine_eq, show ("len" : Str).length = 3 by decide +kernel]; omega) ?_
      have hlen3 : ∀ c ∈ tl (("len" : Str) ++ z3), c < 1114112 := by
        intro c hc
        rw [tl_app] at hc
        rcases List.mem_append.mp hc with hc | hc
        · have : ∀ c ∈ tl ("len" : Str), c < 1114112 := by decide +kernel
          exact this c hc
        · have := hz3.2 c hc
          omega
      have hd3 : ∀ G : Hp, Dv K G 1 (.str (("len" : Str) ++ z3)) := fun G => dv_str (by rw [← tl_length, tl_app, List.length_append, tl_length, tl_length, show ("len" : Str).length = 3 by decide +kernel]; omega) (str_ok hlen3)
      generalize ("len" : Str) ++ z3 = z3' at hd3 ⊢
      walk_at "rd"
      refine ⟨b, _, rfl, r4.bag, by omega, fun z4 H5 hz4 r5 => ?_⟩
      replace r5 := r4.trans r5
      have hnd : ∀ {z : Str}, isNameL (tl z) = true → ∀ G : Hp, Dv K G 1 (.str z) := fun {z} hz G => by
        obtain ⟨n1, n2, n3⟩ := name_small hz
        rw [tl_length] at n2
        exact dv_str (by omega) (str_ok fun c hc => by have := n3 c hc; omega)
      walk_at "rd"
      refine ⟨by show 4 ≤ sizeLine; decide, fun p0 hp0 => ?_⟩
      obtain ⟨r6, hq6⟩ := r5.bag.new (o := .lst [.str z1, .str z2, .str z3', .str z4]) hp0
      replace r6 := r5.trans r6
      walk_at "rd"
      refine ⟨rfl, fun pk hpk => ?_⟩
      obtain ⟨r7, hq7⟩ := r6.bag.new (o := .lst (kwS.map V.str)) hpk
      replace hq6 := r7.ex _ _ hq6
      replace r7 := r6.trans r7
      walk_at "rd"
      refine r_mulS (mulOk_v (by decide) (by decide) (by decide +kernel)) ?_
      walk_at "rd"
      refine r_mulS (mulOk_v (by decide) (by decide) (by decide +kernel)) ?_
      walk_at "rd"
      generalize h12 : Txt.mul ("a" : Str) 12 = a12
      generalize h13 : Txt.mul ("a" : Str) 13 = a13
      have l12 : decide (a12.length ≤ 100000) = true ∧ PyData.strOk a12 = true := by rw [← h12]; exact ⟨by decide +kernel, by decide +kernel⟩
      have l13 : decide (a13.length ≤ 100000) = true ∧ PyData.strOk a13 = true := by rw [← h13]; exact ⟨by decide +kernel, by decide +kernel⟩
      refine ⟨by show 1 ≤ sizeLine; decide, fun pf hpf => ?_⟩
      obtain ⟨r8, hq8⟩ := r7.bag.new (o := .lst [.str "f"]) hpf
      replace hq6 := r8.ex _ _ hq6
      replace hq7 := r8.ex _ _ hq7
      replace r8 := r7.trans r8
      walk_at "rd"
      refine ⟨by show 10 ≤ sizeLine; decide, fun p2 hp2 => ?_⟩
      obtain ⟨r9, hq9⟩ := r8.bag.new (o := .lst [.str "", .str a12, .str a13, .str "A", .str "f1", .str "f ", .non, .bl true, .int 0, .ref pf]) hp2
      replace hq6 := r9.ex _ _ hq6
      replace hq7 := r9.ex _ _ hq7
      replace hq8 := r9.ex _ _ hq8
      replace r9 := r8.trans r9
      walk_at "rd"
      refine r_addL (hid_get hq7) (hid_get hq9) (by rw [List.length_map, sizeLine_eq]; show kwS.length + 10 ≤ 16777216; decide +kernel) fun p3 hp3 => ?_
      obtain ⟨r10, hq10⟩ := r9.bag.new (o := .lst (kwS.map V.str ++ [.str "", .str a12, .str a13, .str "A", .str "f1", .str "f ", .non, .bl true, .int 0, .ref pf])) hp3
      replace hq6 := r10.ex _ _ hq6
      replace hq8 := r10.ex _ _ hq8
      replace r10 := r9.trans r10
      clear hq7 hq9
      walk_at "rd"
      refine ⟨b, _, _, rfl, r10.bag, by omega, .inl ⟨p3, _, rfl, .inl (SqL.of hq10), by simp, by rw [List.length_append, List.length_map]; show kwS.length + 10 ≤ 100000; decide +kernel, fun y1 hy1 H11 r11 => ?_⟩⟩
      replace hq6 := r11.ex _ _ hq6
      replace hq8 := r11.ex _ _ hq8
      replace r11 := r10.trans r11
      have hd1 : ∀ G : Hp, G pf = some (.lst [.str "f"]) → Dv K G 1 y1 := by
        intro G hG
        rcases List.mem_append.mp hy1 with hy1 | hy1
        · obtain ⟨z, hz, rfl⟩ := List.mem_map.mp hy1
          have : ∀ z ∈ kwS, decide (z.length ≤ 100000) = true ∧ PyData.strOk z = true := by decide +kernel
          exact dv_str (of_decide_eq_true (this z hz).1) (this z hz).2
        · simp only [List.mem_cons, List.not_mem_nil, or_false] at hy1
          rcases hy1 with rfl | rfl | rfl | rfl | rfl | rfl | rfl | rfl | rfl | rfl
          · exact dv_str (by decide +kernel) (by decide +kernel)
          · exact dv_str (of_decide_eq_true l12.1) l12.2
          · exact dv_str (of_decide_eq_true l13.1) l13.2
          · exact dv_str (by decide +kernel) (by decide +kernel)
          · exact dv_str (by decide +kernel) (by decide +kernel)
          · exact dv_str (by decide +kernel) (by decide +kernel)
          · exact dv_non
          · exact dv_bl
          · exact dv_int
          · exact dv_lst (m := 0) (SqL.of hG) (fun v hv => by rw [List.mem_singleton.mp hv]; exact dv_str (by decide +kernel) (by decide +kernel)) (by simp)
      walk_at "rd"
      refine ⟨by show 1 ≤ sizeLine; decide, fun p4 hp4 => ?_⟩
      obtain ⟨r12, hq12⟩ := r11.bag.new (o := .lst [y1]) hp4
      replace hq6 := r12.ex _ _ hq6
      replace hq8 := r12.ex _ _ hq8
      replace r12 := r11.trans r12
      walk_at "rd"
      refine r_addL (hid_get hq6) (hid_get hq12) (by rw [sizeLine_eq]; show 4 + 1 ≤ 16777216; decide) fun p5 hp5 => ?_
      obtain ⟨r13, hq13⟩ := r12.bag.new (o := .lst ([.str z1, .str z2, .str z3', .str z4] ++ [y1])) hp5
      replace hq8 := r13.ex _ _ hq8
      replace r13 := r12.trans r13
      clear hq6 hq12
      walk_at "rd"
      refine ⟨b, _, _, rfl, r13.bag, by omega, .inl ⟨p5, _, rfl, .inl (SqL.of hq13), by simp, by simp, fun nm hnm H14 r14 => ?_⟩⟩
      replace hq8 := r14.ex _ _ hq8
      replace r14 := r13.trans r14
      have hdn : Dv K (hid b H14) 1 nm := by
        rcases List.mem_append.mp hnm with hnm | hnm
        · simp only [List.mem_cons, List.not_mem_nil, or_false] at hnm
          rcases hnm with rfl | rfl | rfl | rfl
          · exact hnd hz1 _
          · exact hnd hz2 _
          · exact hd3 _
          · exact hnd hz4 _
        · rw [List.mem_singleton.mp hnm]
          exact hd1 _ hq8
      clear hnm hd1 hy1 hd3 hq8 hq10 hq13
      walk_at "rd"
      refine ⟨b, _, _, rfl, r14.bag, by omega, by decide, by decide, fun m0 H15 hm0 hm1 r15 => ?_⟩
      obtain ⟨m, rfl⟩ := Int.eq_ofNat_of_zero_le hm0
      replace hdn := Dv.mono r15.ex (Nat.le_refl _) hdn
      replace r15 := r14.trans r15
      refine ⟨_, rfl, by omega, by omega, fun L hLn => ?_⟩
      refine lc_draw (m := (m : Int).toNat) (c := 30) hLn r15.bag (by omega) (fun G v => Dv K G 1 v) (fun G G' v e h => Dv.mono e (Nat.le_refl _) h) ?_ ?_ ?_
      · exact fun _ => rfl
      · intro i H' hi r4 Q' q
        walk_at "rd"
        exact ⟨b, _, rfl, r4.bag, by omega, fun v H'' h1 r5 => q _ H'' h1 r5⟩
      · intro H16 xs hxl hI hL16 nLb r16
        replace hdn := Dv.mono r16.ex (Nat.le_refl _) hdn
        have hxs : ∀ v ∈ xs, Dv K H16 1 v := fun v hv => Dv.mono (fun a o h => nov_ex _ _ (hid_get h)) (Nat.le_refl _) (hI v hv)
        replace r16 := r15.trans r16
        have e16 : Evl.Ex H0 H16 := by
          have := r16.ex
          rw [eb] at this
          exact this.trans hid_ex
        replace hdn := Dv.mono hid_ex (Nat.le_refl _) hdn
        obtain ⟨d, hd, hdf, _⟩ := hdn
        obtain ⟨ds, hds, hfs⟩ := dvs_all hxs
        have hxl5 : xs.length ≤ 5 := by omega
        clear r16 r15 r14 hI
        walk_at "rd"
        refine ⟨nm, d, L, xs, ds, rfl, hd, hdf, SqL.of hL16, hds, hfs, hxl5, fun H17 e17 => ?_⟩
        walk_at "rd"
        refine ⟨_, _, _, rfl, ?_⟩
        have hL17 := e17 _ _ hL16
        have e017 := e16.trans e17
        generalize hdv : dueV d xs = dv
        walk_at "rd"
        refine ⟨nm, d, L, xs, ds, rfl, Dp.mono e17 hd, hdf, SqL.of hL17, DpAll.mono e17 hds, hfs, hxl5, fun kk hk H18 dd e18 hdd => ?_, fun hk z n H18 hn hz e18 => ?_⟩
        · rw [hdv] at hk
          subst hk
          refine ⟨true, hte, fun _ a0 ha0 => ?_, fun h => by cases h⟩
          walk_at "rd"
          refine (r_var rfl ⟨rfl, rfl, dd, _, .int kk, rfl, upd_same, by simp [List.lookup], ?_⟩)
          walk_at "rd"
          refine iteNY rfl ?_
          walk_at "rx"
          exact ⟨⟨_, _, _, _, _, _, _, _, _, _, _, rfl⟩, e0.trans ((e017.trans e18).trans (Evl.Ex.new hdd))⟩
        · rw [hdv] at hk
          subst hk hn
          have hdue : isNameD d = true ∧ dueFrom 0 xs = none := by
            unfold dueV at hdv
            split at hdv
            · rename_i h1
              refine ⟨h1, ?_⟩
              cases hq : dueFrom 0 xs with
              | none => rfl
              | some k => rw [hq] at hdv; cases hdv
            · cases hdv
          obtain ⟨hc, hl3⟩ := due_none hdue.2 (by omega)
          have hc : ∀ v ∈ xs, Cst v := fun v hv => cst_of (hc v hv)
          have hn1 : n.length ≤ 1000 := by
            cases hd
            have := hdue.1
            obtain ⟨n1, n2, n3⟩ := name_small (t := tl n) this
            rw [tl_length] at n2
            omega
          walk_at "rd"
          refine iteNY rfl ?_
          walk_at "rx"
          refine ⟨n, L, xs, rfl, hn1, SqL.of (e18 _ _ hL17), hc, by omega, fun z' H19 hz' e19 => ?_⟩
          walk_at "rd"
          refine iteNY (by rw [tl_ext (hz.trans hz'.symm)]) ?_
          walk_at "rd"
          exact ⟨⟨_, _, _, _, _, _, _, _, _, _, _, rfl⟩, e0.trans ((e017.trans e18).trans e19)⟩
    · rintro σ H' ⟨⟨w1, w2, w3, w4, w5, w6, w7, w8, w9, w10, w11, rfl⟩, e⟩
      walk_at "rd"
      exact k _
end
end WP

set_option Elab.async false
set_option linter.all false
set_option maxRecDepth 100000
set_option maxHeartbeats 4000000
namespace WP
open PySem PySem.Spec PyProof.Rows L2
local macro_rules | `(tactic| walk_at "rd") => `(tactic| repeat (first
  | with_reducible refine r_seq ?_ | with_reducible refine r_par3 ?_ | with_reducible refine r_callR ?_ | with_reducible refine r_callS ?_ | with_reducible refine r_enumA ?_ | with_reducible refine r_mkO ?_ | with_reducible refine r_raise ?_ | with_reducible refine r_callW ?_ | with_reducible refine r_tru ?_ | with_reducible refine r_var rfl ?_ | with_reducible refine r_c ?_ | with_reducible refine r_op ?_ | with_reducible refine r_cons ?_ | with_reducible refine r_nil ?_
  | with_reducible refine r_cb ?_ | with_reducible refine r_call ?_ | with_reducible refine r_test ?_ | with_reducible refine r_B ?_ | with_reducible refine r_bl ?_ | with_reducible refine r_asg ?_ | with_reducible refine r_asgS ?_
  | with_reducible refine r_ret ?_ | with_reducible refine r_drop ?_ | with_reducible refine r_ifS ?_ | with_reducible refine r_if ?_ | with_reducible refine r_and ?_ | with_reducible refine r_or ?_ | with_reducible refine r_not ?_
  | with_reducible refine r_andV ?_ | with_reducible refine r_orV ?_ | with_reducible refine r_notV ?_ | with_reducible refine r_chain ?_ | with_reducible refine r_sl ?_ | with_reducible refine r_nopart ?_ | with_reducible refine r_part ?_
  | with_reducible refine r_intO ?_ | with_reducible refine r_two ?_ | with_reducible refine r_m1 ?_ | with_reducible refine r_bm ?_ | with_reducible refine r_next ?_ | with_reducible refine r_gCons ?_ | with_reducible refine r_gNil ?_ | with_reducible refine r_asgT ?_ | with_reducible refine r_for ?_ | with_reducible refine r_rng1 ?_ | with_reducible refine r_iList ?_ | with_reducible refine r_iAny ?_ | with_reducible refine r_lc ?_ | with_reducible refine r_yes ?_ | with_reducible refine r_gN ?_ | with_reducible refine r_par ?_ | with_reducible refine r_un ?_ | with_reducible refine r_brk ?_ | with_reducible refine r_cont ?_
  | with_reducible refine r_I0 ?_ | with_reducible refine r_U ?_ | with_reducible refine r_addI ?_ | with_reducible refine r_abs ?_ | with_reducible refine r_intI ?_ | with_reducible refine r_max2 ?_ | with_reducible refine r_min2 ?_
  | with_reducible refine r_ltI ?_ | with_reducible refine r_leI ?_ | with_reducible refine r_gtI ?_ | with_reducible refine r_geI ?_ | with_reducible refine r_isN_non ?_ | with_reducible refine r_isN_int ?_ | with_reducible refine r_isN_str ?_ | with_reducible refine r_isN_bl ?_ | with_reducible refine r_isN_ref ?_ | with_reducible refine r_isN ?_ | with_reducible refine r_isB ?_ | with_reducible refine r_isnotN_non ?_ | with_reducible refine r_isnotN_int ?_ | with_reducible refine r_isnotN_str ?_ | with_reducible refine r_isnotN_bl ?_ | with_reducible refine r_isnotN_ref ?_ | with_reducible refine r_isnotN ?_ | with_reducible refine r_isnotB ?_
  | with_reducible refine r_inS ?_ | with_reducible refine r_eqS rfl ?_ | with_reducible refine r_neS rfl ?_ | with_reducible refine r_lst ?_ | with_reducible refine r_tup ?_ | with_reducible refine iteT ?_ | with_reducible refine iteF ?_))
local macro_rules | `(tactic| walk_at "isi") => `(tactic| (first
  | with_reducible refine r_isi_non_int ?_
  | with_reducible refine r_isi_non_str ?_
  | with_reducible refine r_isi_non_list ?_
  | with_reducible refine r_isi_non_tuple ?_
  | with_reducible refine r_isi_non_bool ?_
  | with_reducible refine r_isi_bl_int ?_
  | with_reducible refine r_isi_bl_str ?_
  | with_reducible refine r_isi_bl_list ?_
  | with_reducible refine r_isi_bl_tuple ?_
  | with_reducible refine r_isi_bl_bool ?_
  | with_reducible refine r_isi_int_int ?_
  | with_reducible refine r_isi_int_str ?_
  | with_reducible refine r_isi_int_list ?_
  | with_reducible refine r_isi_int_tuple ?_
  | with_reducible refine r_isi_int_bool ?_
  | with_reducible refine r_isi_str_int ?_
  | with_reducible refine r_isi_str_str ?_
  | with_reducible refine r_isi_str_list ?_
  | with_reducible refine r_isi_str_tuple ?_
  | with_reducible refine r_isi_str_bool ?_
  | with_reducible refine r_isi_lst_int (SqL.of (by assumption)) ?_
  | with_reducible refine r_isi_lst_str (SqL.of (by assumption)) ?_
  | with_reducible refine r_isi_lst_list (SqL.of (by assumption)) ?_
  | with_reducible refine r_isi_lst_tuple (SqL.of (by assumption)) ?_
  | with_reducible refine r_isi_lst_bool (SqL.of (by assumption)) ?_
  | with_reducible refine r_isi_tup_int (SqT.of (by assumption)) ?_
  | with_reducible refine r_isi_tup_str (SqT.of (by assumption)) ?_
  | with_reducible refine r_isi_tup_list (SqT.of (by assumption)) ?_
  | with_reducible refine r_isi_tup_tuple (SqT.of (by assumption)) ?_
  | with_reducible refine r_isi_tup_bool (SqT.of (by assumption)) ?_))
local macro_rules | `(tactic| walk_at "rs") => `(tactic| (first
  | ((with_reducible refine iteTc ?hc ?_); (case hc => rfl)) | ((with_reducible refine iteFc ?hc ?_); (case hc => rfl))
  | walk_at "isi"
  | refine r_ixL (SqL.of (by assumption)) rfl ?_ | refine r_ixL (SqL.of upd_same) rfl ?_
  | refine r_I (C := fun _ j => 0 < j) (by first | decide | assumption | omega) ?_
  | refine r_mulI (.inl ⟨by decide, by decide⟩) ?_ | refine r_mulI (.inr ⟨by decide, by decide⟩) ?_ | refine r_mulI (.inr ⟨by omega, by omega⟩) ?_ | refine r_mulI (.inl ⟨by omega, by omega⟩) ?_
  | refine r_I (wide_div (b := 64) (by decide) (by decide) (by decide) (by decide)) ?_
  | refine r_I (C := CPow) ⟨by decide, by decide, by decide⟩ ?_
  | refine r_setL (by assumption) rfl ?_ | refine r_setL upd_same rfl ?_))
local macro_rules | `(tactic| walk_at "rx") => `(tactic| (walk_at "rd"; (repeat (walk_at "rs"; walk_at "rd"))))

def steps : Nat := 4000
abbrev PW : Program := PySem.Challenge.pw_whatpasses_k08_call_texts
def xd : ExD := ⟨"BadCall", "BadCall.__init__", s_BadCall_init⟩
def xs : List ExD := [xd]
def ex (K : PySem.W.Frag) : Bool := He.tupB K "KEYWORDS" (kwS.map He.Dv.str) && excB PW K xd
def d_is_number : He.DefD := ⟨("is_number", none), "is_number", "is_number", defArgs s_is_number, defBody s_is_number, defScope s_is_number, [], []⟩
def d_is_word : He.DefD := ⟨("is_word", none), "is_word", "is_word", defArgs s_is_word, defBody s_is_word, defScope s_is_word, [(.int 30)], []⟩
def d_is_name : He.DefD := ⟨("is_name", none), "is_name", "is_name", defArgs s_is_name, defBody s_is_name, defScope s_is_name, [], []⟩
def d_is_constant : He.DefD := ⟨("is_constant", none), "is_constant", "is_constant", defArgs s_is_constant, defBody s_is_constant, defScope s_is_constant, [], []⟩
def d_constant_text : He.DefD := ⟨("constant_text", none), "constant_text", "constant_text", defArgs s_constant_text, defBody s_constant_text, defScope s_constant_text, [], []⟩
def d_call_text : He.DefD := ⟨("call_text", none), "call_text", "call_text", defArgs s_call_text, defBody s_call_text, defScope s_call_text, [], []⟩
def d_law_take : He.DefD := ⟨("_law_take", none), "_law_take", "_law_take", defArgs s_law_take, defBody s_law_take, defScope s_law_take, [], []⟩
def d_law_of : He.DefD := ⟨("_law_of", none), "_law_of", "_law_of", defArgs s_law_of, defBody s_law_of, defScope s_law_of, [], []⟩
def d_law_word : He.DefD := ⟨("_law_word", none), "_law_word", "_law_word", defArgs s_law_word, defBody s_law_word, defScope s_law_word, [], []⟩
def d_law_number : He.DefD := ⟨("_law_number", none), "_law_number", "_law_number", defArgs s_law_number, defBody s_law_number, defScope s_law_number, [], []⟩
def d_law_bag : He.DefD := ⟨("_law_bag", none), "_law_bag", "_law_bag", defArgs s_law_bag, defBody s_law_bag, defScope s_law_bag, [], []⟩
def d_law_any_constant : He.DefD := ⟨("_law_any_constant", none), "_law_any_constant", "_law_any_constant", defArgs s_law_any_constant, defBody s_law_any_constant, defScope s_law_any_constant, [], []⟩
def d_law_written : He.DefD := ⟨("_law_written", none), "_law_written", "_law_written", defArgs s_law_written, defBody s_law_written, defScope s_law_written, [], []⟩
def d_law_call_text : He.DefD := ⟨("_law_call_text", none), "_law_call_text", "_law_call_text", defArgs s_law_call_text, defBody s_law_call_text, defScope s_law_call_text, [], []⟩
def d_law_keywords : He.DefD := ⟨("_law_keywords", none), "_law_keywords", "_law_keywords", defArgs s_law_keywords, defBody s_law_keywords, defScope s_law_keywords, [], []⟩
def d_law_any_name : He.DefD := ⟨("_law_any_name", none), "_law_any_name", "_law_any_name", defArgs s_law_any_name, defBody s_law_any_name, defScope s_law_any_name, [], []⟩
def d_law_is_word : He.DefD := ⟨("_law_is_word", none), "_law_is_word", "_law_is_word", defArgs s_law_is_word, defBody s_law_is_word, defScope s_law_is_word, [], []⟩
def d_law_is_name : He.DefD := ⟨("_law_is_name", none), "_law_is_name", "_law_is_name", defArgs s_law_is_name, defBody s_law_is_name, defScope s_law_is_name, [], []⟩
def d_law_is_integer : He.DefD := ⟨("_law_is_integer", none), "_law_is_integer", "_law_is_integer", defArgs s_law_is_integer, defBody s_law_is_integer, defScope s_law_is_integer, [], []⟩
def d_law_is_constant : He.DefD := ⟨("_law_is_constant", none), "_law_is_constant", "_law_is_constant", defArgs s_law_is_constant, defBody s_law_is_constant, defScope s_law_is_constant, [], []⟩
def d_law_value : He.DefD := ⟨("_law_value", none), "_law_value", "_law_value", defArgs s_law_value, defBody s_law_value, defScope s_law_value, [], []⟩
def d_law_asked : He.DefD := ⟨("_law_asked", none), "_law_asked", "_law_asked", defArgs s_law_asked, defBody s_law_asked, defScope s_law_asked, [], []⟩
def d_law_due : He.DefD := ⟨("_law_due", none), "_law_due", "_law_due", defArgs s_law_due, defBody s_law_due, defScope s_law_due, [], []⟩
def d_law : He.DefD := ⟨("law", none), "law", "law", defArgs s_law, defBody s_law, defScope s_law, [], []⟩
def fn : List He.DefD := [d_is_number, d_is_word, d_is_name, d_is_constant, d_constant_text, d_call_text, d_law_take, d_law_of, d_law_word, d_law_number, d_law_bag, d_law_any_constant, d_law_written, d_law_call_text, d_law_keywords, d_law_any_name, d_law_is_word, d_law_is_name, d_law_is_integer, d_law_is_constant, d_law_value, d_law_asked, d_law_due, d_law]
def fa0 : List He.Fa := [.glo "is_number", .glo "is_word", .glo "is_name", .glo "is_constant", .glo "constant_text", .glo "call_text", .glo "_law_take", .glo "_law_of", .glo "_law_word", .glo "_law_number", .glo "_law_bag", .glo "_law_any_constant", .glo "_law_written", .glo "_law_call_text", .glo "_law_keywords", .glo "_law_any_name", .glo "_law_is_word", .glo "_law_is_name", .glo "_law_is_integer", .glo "_law_is_constant", .glo "_law_value", .glo "_law_asked", .glo "_law_due", .glo "law", .str "SMALL" "abcdefghijklmnopqrstuvwxyz", .glo "KEYWORDS", .glo "BadCall", .free "super", .noat "BadCall" "at", .exm "BadCall" "BadCall" true]
def fa : List He.Fa := blFa ++ fa0
def loose : List PySem.Str := ["WhatpassesError", "BadCall", "SMALL", "is_number", "is_word", "KEYWORDS", "is_name", "is_constant", "constant_text", "call_text", "_law_take", "_law_of", "_law_number", "_law_word", "_law_any_constant", "_law_is_word", "_law_keywords", "_law_is_name", "_law_is_integer", "_law_is_constant", "_law_bag", "_law_any_name", "_law_written", "_law_call_text", "_law_value", "_law_asked", "_law_due"]
abbrev R : PySem.W.OpenRow := PySem.W.OpenLaw.row PySem.Challenge.rw_whatpasses_k08_call_texts
abbrev hk : PySem.W.Hook := hookE2 5 fa fn xs ex
def ob (s : PySem.W.SharedT) : AlE := obsE2 5 fa fn xs ex (HandSHeadRun.getT s)
theorem ob_eq (s : PySem.W.SharedT) : ob s = hk.obs s.abs := obsE2_eq (HandSHeadRun.getT_eq s)
theorem run (w : World) : HandSHeadRun.RunEq R (PySem.W.view R.prog [31]) hk ob steps loose w := by
  intro os
  kernel_rfl
theorem facts {w : World} {K : PySem.W.Frag} {h : Heap} {mg : Str → Option Value} {f : Addr} (X : K.In h) (G : h.Ns mainGlobals mg) (hfa : mg ("law" : Str) = some (.ref f)) (c : He.SaysD fa fn K) (hxs : xs.map (fun d => inW K d.x) = xs.map ExD.val) (hex : ex K = true) :
    ∃ fd : FuncData, (∀ (s : Shared) (v : Value), BindsTo s fd ⟨[v], []⟩ [("_law_script", v)]) ∧ ∀ base : Heap, K.In base → base.Ns mainGlobals mg → FnOk PW w K mg base L2.CX0 7 f fd ["_law_script"] (spLaw K) := by
  have B : Bl mg := bl_of X G c
  obtain ⟨hx1, hx2⟩ := Bool.and_eq_true_iff.mp hex
  obtain ⟨fd, F⟩ := c.def_ 23 (d := d_law) rfl
  have e := hfa.symm.trans (He.glo_ok X G (c.fact 40 (f := .glo "law") rfl))
  cases e
  have b := FunD.bindsA (ps := ["_law_script"]) F fun _ _ _ _ _ _ us hl => match us, hl with | [_], _ => rfl
  refine ⟨fd, fun s v => b s [v] rfl, fun base _ _ => ?_⟩
  have g_KEYWORDS : ∃ u, mg "KEYWORDS" = some u ∧ RelV (.ref (He.ga K "KEYWORDS")) u := ⟨_, He.glo_ok X G (c.fact 42 (f := .glo "KEYWORDS") rfl), rfl⟩
  have hK : ∀ H, SqT K H (He.ga K "KEYWORDS") (kwS.map V.str) := fun H => by
    have := He.tupB_ok hx1 H
    rw [List.map_map] at this
    exact this
  have T := excT_of (P := PW) (d := xd) X G (inW_at hxs 0) hx2 (by decide +kernel)
  have hsup : mg "super" = none := He.free_ok X G (c.fact 44 (f := .free "super") rfl)
  have hno : PySem.W.findIn K (.ref (He.ga K "BadCall")) "at" = some none := He.eqO_ok (c.fact 45 (f := .noat "BadCall" "at") rfl)
  have hte : PySem.W.exmOne K (.ref (He.ga K "BadCall")) (.ref (He.ga K "BadCall")) = some true := of_decide_eq_true (c.fact 46 (f := .exm "BadCall" "BadCall" true) rfl)
  have eB := e_badcall (P := PW) (w := w) (base := base) T hsup hno
  have take := c_take (P := PW) (w := w) (base := base) (at_of X G c 6 23) B
  have of_ := c_of (P := PW) (w := w) (base := base) (at_of X G c 7 24) B take
  have word := c_word (P := PW) (w := w) (base := base) (at_of X G c 8 25) B take of_
  have num := c_number (P := PW) (w := w) (base := base) (at_of X G c 9 26) B take of_
  have isw := c_is_word_2 (P := PW) (w := w) (base := base) (atD_of X G c 1 18) B (gs_of X G c 41)
  have isn := c_is_name_ (P := PW) (w := w) (base := base) (at_of X G c 2 19) B isw g_KEYWORDS hK
  have icn := c_is_constant_ (P := PW) (w := w) (base := base) (at_of X G c 3 20) B (c_is_number (at_of X G c 0 17) B) isw
  have ctx := c_call_text_r (P := PW) (w := w) (base := base) (at_of X G c 5 22) B isn icn (c_constant_text_ (at_of X G c 4 21) B) eB
  have con := c_any_constant (P := PW) (w := w) (base := base) (at_of X G c 11 28) B take of_ word num
  have wri0 : Cal PW w K mg base 1 "_law_written" (fun _ _ _ _ => False) := cal_of (at_of X G c 12 29) sc_law_written (fun vs H Q E h => h.elim) (fun _ _ _ _ _ _ us hl => match us, hl with | [_], _ => rfl) (fun f cdv A outer s H vs Q E hr h => h.elim)
  have wri := c_written_ (P := PW) (w := w) (base := base) (at_of X G c 12 29) B wri0
  have kws := c_keywords (P := PW) (w := w) (base := base) (at_of X G c 14 31) B
  have nam := c_any_name (P := PW) (w := w) (base := base) (at_of X G c 15 32) B take of_ kws
  have lwd := c_law_is_word_ (P := PW) (w := w) (base := base) (at_of X G c 16 33) B
  have lin := c_law_is_integer_ (P := PW) (w := w) (base := base) (at_of X G c 18 35) B
  exact c_law F B take of_ word nam kws (c_bag (at_of X G c 10 27) B) (c_value (at_of X G c 20 37) B take of_ con) (c_due (at_of X G c 22 39) B (c_law_is_name_ (at_of X G c 17 34) B lwd kws) (c_law_is_constant_ (at_of X G c 19 36) B lin lwd)) (c_asked (at_of X G c 21 38) B ctx) (c_call_text_ (at_of X G c 13 30) B wri) T.gC hte T.xf hno
end WP
open PySem PySem.W PySem.Calls PyProof.Rows
set_option maxRecDepth 100000 in
set_option maxHeartbeats 0 in
theorem PySem.Challenge.cw_whatpasses_k08_call_texts_holds : PySem.Challenge.rw_whatpasses_k08_call_texts.Holds := by
  w_on; o_law
  refine HandSHeadRun.head_any (r := OpenLaw.row PySem.Challenge.rw_whatpasses_k08_call_texts) (q := view (OpenLaw.row PySem.Challenge.rw_whatpasses_k08_call_texts).prog [31]) (H := WP.hk) (ob := WP.ob) (M := WP.steps) (loose := WP.loose) (d := HandSHeadRun.topDef (OpenLaw.row PySem.Challenge.rw_whatpasses_k08_call_texts).prog 31) (kwd := []) WP.ob_eq
    (by kernel_rfl) (fun s => by kernel_rfl) WP.run (by kernel_rfl) (by kernel_rfl) (by kernel_rfl) (by rfl) (by first | assumption | decide +kernel) (by decide +kernel) ⟨rfl, rfl, rfl, rfl, rfl, by decide +kernel⟩ ?hw ?hc
  case hw => w_witness2
  case hc =>
    refine L2.walk_ofE (l := PySem.Challenge.rw_whatpasses_k08_call_texts) (n := 63) (k := 7) (x := "_law_script") (CX := L2.CX0) rfl (by decide) (by kernel_rfl) ⟨rfl, by decide, by decide⟩ ?F (fun _ _ _ _ z => z)
    intro w mg fa h Y G hmg0
    obtain ⟨K, KX, c, hxs, hex⟩ := Y
    have hmg : mg ("law" : PySem.Str) = some (.ref fa) := by
      have e : (HandSHeadRun.topDef (OpenLaw.row PySem.Challenge.rw_whatpasses_k08_call_texts).prog 31).name = ("law" : PySem.Str) := by kernel_rfl
      rw [← e]
      exact hmg0
    obtain ⟨fd, hb, hF⟩ := WP.facts (w := w) KX G hmg c hxs hex
    exact ⟨K, fd, WP.spLaw K, KX, hb, fun H a ns hl _ hS => ⟨a, ns, rfl, hS, hl, fun _ => rfl⟩, hF⟩
#print axioms PySem.Challenge.cw_whatpasses_k08_call_texts_holds

