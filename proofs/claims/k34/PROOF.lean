import PyProof.Rows.All
import Wide.All
import OpenK.AllK
import Wide.FinOn
import HandS.ForMost
import HandS.Wide
import HandS.WideBits
import HandS.Flow
import HandS.Style
import HandS.IsInst
import HandS.Codes
import HandS.Evl
import HandS.TupAny
import HandS.Walk
import HandS.Defaults
import HandS.WordsExc
import HandS.Head0
import HandS.Head1
import HandS.Head2
import HandS.HeadEnd
import HandS.HeadHook1
import HandS.HeadHook2
import KE.KExcSuper
import HandS.ExcInit
import HandS.Nested
import HandS.ExcField
import HandS.ExcOwn
import HandS.Star
import HandS.Iter
import HandS.Spec
import KE.GoesMore
import KE.GoesEnum
import PyProof.Draws
import PyProof.EnumStmt
import PyProof.EnumFor
import KE.KDictPairs
import HandS.Dict
import HandS.OwnEq
import HandS.ClsMeth
import HandS.HeadNt
import KE.KOpsOwn
import KE.KFmtOwn
import HandS.More
import HandS.WordsDict
import HandS.ExcIs
import HandS.ExcValue
import KE.KExcIs
import KE.KExcPX
import KE.KExcInit
import PyProof.ReprLen
import PyProof.ReprRoads
import HandS.GenList
import HandS.Replace
import HandS.SortOrd
import HandS.Conv
import KE.KDictSum
import PyProof.Rows.SortKeyStr
import HandS.DictComp
import HandS.MakeKwOnly
import HandS.MakeKw
import HandS.Property
import HandS.TupLen
import PySem.Challenge.RW_whatpasses_k34_parts_made
set_option Elab.async false
set_option linter.all false
set_option maxRecDepth 100000
set_option maxHeartbeats 4000000
namespace WP
open PySem PySem.Spec PyProof.Rows L2

/-! ### rules that take what comes -/
def rAddA (K : PySem.W.Frag) : R2 := fun x y H Q => (∃ i j, x = .int i ∧ y = .int j ∧ Q (.int (i + j)) H) ∨ (∃ i j, x = .str i ∧ y = .str j ∧ i.length + j.length ≤ sizeLine ∧ Q (.str (i ++ j)) H) ∨ rCat x y H Q ∨ rCatT K x y H Q
def rMulA : R2 := fun x y H Q => (∃ i j, x = .int i ∧ y = .int j ∧ CMul i j ∧ Q (.int (i * j)) H) ∨ rRep x y H Q ∨ ∃ z n, x = .str z ∧ y = .int n ∧ MulOk z n ∧ Q (.str (Txt.mul z n)) H
def rLenA (K : PySem.W.Frag) : List V → Hp → VK → Prop := fun xs H Q => ∃ x n, xs = [x] ∧ LenV K x H n ∧ Q (.int (n : Nat)) H
def rAbsA : List V → Hp → VK → Prop := fun xs H Q => ∃ i, xs = [.int i] ∧ Q (.int (if i < 0 then -i else i)) H
def rIntA : List V → Hp → VK → Prop := fun xs H Q => (∃ i, xs = [.int i] ∧ Q (.int i) H) ∨ ∃ k, xs = [.bl k] ∧ Q (.int (if k then 1 else 0)) H
def rMax2A : List V → Hp → VK → Prop := fun xs H Q => ∃ i j, xs = [.int i, .int j] ∧ Q (.int (if j > i then j else i)) H
def rMin2A : List V → Hp → VK → Prop := fun xs H Q => ∃ i j, xs = [.int i, .int j] ∧ Q (.int (if j < i then j else i)) H
def rEqA (K : PySem.W.Frag) : R2 := fun x y H Q => rEq x y H Q ∨ rEqD K x y H Q
def rNeA (K : PySem.W.Frag) : R2 := fun x y H Q => rNe x y H Q ∨ rNeD K x y H Q
def rLtA : R2 := fun x y H Q => (∃ i j, x = .int i ∧ y = .int j ∧ Q (.bl (decide (i < j))) H) ∨ ∃ i j, x = .str i ∧ y = .str j ∧ Q (.bl (decide (i.cps.toList < j.cps.toList))) H
def rLeA : R2 := fun x y H Q => ∃ i j, x = .int i ∧ y = .int j ∧ Q (.bl (decide (i ≤ j))) H
def rGtA : R2 := fun x y H Q => ∃ i j, x = .int i ∧ y = .int j ∧ Q (.bl (decide (j < i))) H
def rGeA : R2 := fun x y H Q => ∃ i j, x = .int i ∧ y = .int j ∧ Q (.bl (decide (j ≤ i))) H
def rIsA : R2 := fun x y H Q => (y = .non ∧ Q (.bl (decide (x = .non))) H) ∨ ∃ a b : Bool, x = .bl a ∧ y = .bl b ∧ Q (.bl (decide (a = b))) H
def rIsNotA : R2 := fun x y H Q => (y = .non ∧ Q (.bl (!decide (x = .non))) H) ∨ ∃ a b : Bool, x = .bl a ∧ y = .bl b ∧ Q (.bl (!decide (a = b))) H
def rInA (K : PySem.W.Frag) : R2 := fun x y H Q => (∃ (c : Nat) (z : Str), x = .str ⟨#[c]⟩ ∧ y = .str z ∧ Q (.bl (decide (c ∈ z.cps.toList))) H) ∨ rIn K false x y H Q
def rNotInA (K : PySem.W.Frag) : R2 := fun x y H Q => (∃ (c : Nat) (z : Str), x = .str ⟨#[c]⟩ ∧ y = .str z ∧ Q (.bl (!decide (c ∈ z.cps.toList))) H) ∨ rIn K true x y H Q
def rSlA3 (K : PySem.W.Frag) : V → Option Int → Option Int → Hp → VK → Prop := fun x lo hi H Q => rSlS x lo hi H Q ∨ rSlL K x lo hi H Q
section
variable {X : Cx}
theorem op_addA (K : PySem.W.Frag) (h : X.K = K := by rfl) : OpR X (binaryOp .Add) (rAddA K) := by subst h; exact op_add.or (op_add_str.or (op_cat.or op_catT))
theorem op_mulStr : OpR X (binaryOp .Mult) (fun x y H Q => ∃ z n, x = .str z ∧ y = .int n ∧ MulOk z n ∧ Q (.str (Txt.mul z n)) H) := by
  rintro pins s σ H x y v u Q I rx ry ⟨z, n, rfl, rfl, hok, q⟩
  obtain ⟨t, rfl⟩ := rx
  obtain ⟨t', rfl⟩ := ry
  exact SB.mul hok fun _ _ => ⟨.str (Txt.mul z n), H, I.tok _, ⟨_, rfl⟩, q⟩
theorem op_mulA : OpR X (binaryOp .Mult) rMulA := op_mul.or (op_rep.or op_mulStr)
theorem call_lenA (K : PySem.W.Frag) (h : X.K = K := by rfl) : CallR X (.builtin "len") (rLenA K) := by subst h; exact call_len
theorem call_absA : CallR X (.builtin "abs") rAbsA := call_abs
theorem call_intA : CallR X (.type "int") rIntA := call_int1
theorem call_max2A (hc : X.calm = true) : CallR X (.builtin "max") rMax2A := call_max2 hc
theorem call_min2A (hc : X.calm = true) : CallR X (.builtin "min") rMin2A := call_min2 hc
theorem call_isinstanceA (K : PySem.W.Frag) (h : X.K = K := by rfl) : CallR X (.builtin "isinstance") (rIsi K) := by subst h; exact call_isi
theorem call_isinstanceTA (K : PySem.W.Frag) (h : X.K = K := by rfl) : CallR X (.builtin "isinstance") (rIsiT K) := by subst h; exact call_isiT
theorem call_allA (K : PySem.W.Frag) (hc : X.calm = true) (h : X.K = K := by rfl) : CallR X (.builtin "all") (rAll K) := by subst h; exact cr_all hc
theorem call_anyA (K : PySem.W.Frag) (hc : X.calm = true) (h : X.K = K := by rfl) : CallR X (.builtin "any") (rAny K) := by subst h; exact cr_any hc
theorem op_eqA (K : PySem.W.Frag) (hu : X.A.units + 64 < cLine) (h : X.K = K := by rfl) : OpR X (compareOp .Eq) (rEqA K) := by subst h; exact op_eq.or (op_eqD hu)
theorem op_neA (K : PySem.W.Frag) (hu : X.A.units + 64 < cLine) (h : X.K = K := by rfl) : OpR X (compareOp .NotEq) (rNeA K) := by subst h; exact op_ne.or (op_neD hu)
def rTupleA (K : PySem.W.Frag) : List V → Hp → VK → Prop := fun xs H Q => ∃ p ys, xs = [.ref p] ∧ ((SqL K H p ys ∧ ∀ l, H l = none → Q (.ref l) (upd H l (.tup ys))) ∨ (SqT K H p ys ∧ Q (.ref p) H))
def rListA (K : PySem.W.Frag) : List V → Hp → VK → Prop := fun xs H Q => ∃ p ys, xs = [.ref p] ∧ (SqL K H p ys ∨ SqT K H p ys) ∧ ∀ l, H l = none → Q (.ref l) (upd H l (.lst ys))
theorem call_tupleA (K : PySem.W.Frag) (h : X.K = K := by rfl) : CallR X (.type "tuple") (rTupleA K) := by subst h; exact call_tuple_of
theorem call_listA (K : PySem.W.Frag) (h : X.K = K := by rfl) : CallR X (.type "list") (rListA K) := by subst h; exact call_list_of
theorem op_ltA : OpR X (compareOp .Lt) rLtA := op_lt.or op_lt_str
theorem op_leA : OpR X (compareOp .LtE) rLeA := op_le
theorem op_gtA : OpR X (compareOp .Gt) rGtA := op_gt
theorem op_geA : OpR X (compareOp .GtE) rGeA := op_ge
theorem op_isA : OpR X (compareOp .Is) rIsA := op_isN.or op_isBl
theorem op_isnotA : OpR X (compareOp .IsNot) rIsNotA := op_notN.or op_notBl
theorem op_inA (K : PySem.W.Frag) (h : X.K = K := by rfl) : OpR X (compareOp .In) (rInA K) := by subst h; exact op_in_sign.or op_in_seq
theorem op_notInA (K : PySem.W.Frag) (h : X.K = K := by rfl) : OpR X (compareOp .NotIn) (rNotInA K) := by subst h; exact op_notIn_sign.or op_notIn_seq
theorem sl_A (K : PySem.W.Frag) (h : X.K = K := by rfl) : SlR X (rSlA3 K) := by subst h; exact sl_str.or sl_list
theorem ix_A (K : PySem.W.Frag) (h : X.K = K := by rfl) : IxR X (rIx K) := by subst h; exact ix_seq
def rJoinA (K : PySem.W.Frag) : V → List V → Hp → VK → Prop := fun x xs H Q => ∃ a p, ∃ ys : List Str, x = .str a ∧ xs = [.ref p] ∧ (SqL K H p (ys.map V.str) ∨ SqT K H p (ys.map V.str)) ∧ (ys.map (·.length)).sum + ys.length * a.length ≤ 16777216 ∧ Q (.str (Txt.join a ys)) H
theorem pe_joinA (K : PySem.W.Frag) {o e : Expr} {to te : TE} {apos pos : Pos} (ho : PE X o to) (he : PE X e te) (h : X.K = K := by rfl) (hs : starEach [e] X.env = [(false, eval e X.env)] := by rfl) (hbase : attributeBase o "join" X.env (eval o X.env) = eval o X.env := by rfl) (hline : (apos.endLine == pos.line) = true := by rfl) :
    PE X (.Call (.Attribute o "join" apos) [e] [] pos) (tM1 (rJoinA K) to te) := by subst h; exact pe_join ho he hs hbase hline
theorem pe_appendA (K : PySem.W.Frag) {o e : Expr} {to te : TE} {apos pos : Pos} (hb : PE X (.Call (.Attribute o "append" apos) [e] [] pos) (tBM X.K "list" rAppend to (tCons te tNil))) (h : X.K = K := by rfl) :
    PE X (.Call (.Attribute o "append" apos) [e] [] pos) (tBM K "list" rAppend to (tCons te tNil)) := by subst h; exact hb
end

/-! ### what is walked: a list, a tuple, a text -/
def iAny (K : PySem.W.Frag) (te : TE) : TI := fun σ H R => te σ H fun x H1 => (∃ a, x = .ref a ∧ (∃ xs, SqL K H1 a xs) ∧ R (Itl K a) H1) ∨ (∃ a, x = .ref a ∧ (∃ xs, SqT K H1 a xs) ∧ R (Itt K a) H1) ∨ (∃ z, x = .str z ∧ R (Its z) H1)
theorem pi_any {X : Cx} (K : PySem.W.Frag) {tg e : Expr} {te : TE} (he : PE X e te) (h : X.K = K := by rfl) : PI X tg e (iAny K te) := by
  subst h
  constructor
  intro pins s σ H R I h
  refine thn (he.run pins s σ H _ I h) ?_
  rintro v s1 ⟨x, H1, I1, r1, ⟨a, rfl, ⟨xs, hq⟩, q⟩ | ⟨a, rfl, ⟨xs, hq⟩, q⟩ | ⟨z, rfl, q⟩⟩
  · cases r1
    obtain ⟨its, rv, p, hz⟩ := I1.list hq
    refine wpAny_pyIter_list p.isList ⟨s1.heap.objs.size, [s1.heap.objs.size], _, _, H1, rfl, ?_, turn_list a _, ⟨_, Heap.get?_push_size _ rfl, rfl, rfl⟩, fun b hb => ?_, q⟩
    · exact I1.kept (t' := s1.toks) fun b o e => Heap.get?_push_of_some _ e
    · rw [List.mem_singleton.mp hb]
      exact I1.fpOk (Nat.le_refl _) (I1.hok.fresh (Nat.le_refl _))
  · cases r1
    obtain ⟨its, rv, p, hz⟩ := I1.tuple hq
    have p2 : s1.heap.IsTuple a its.toArray := p
    refine wpAny_pyIter_tuple p2 ⟨s1.heap.objs.size, [s1.heap.objs.size], _, _, H1, rfl, ?_, turn_tuple a _, ⟨_, Heap.get?_push_size _ rfl, rfl, rfl⟩, fun b hb => ?_, q⟩
    · exact I1.kept (t' := s1.toks) fun b o e => Heap.get?_push_of_some _ e
    · rw [List.mem_singleton.mp hb]
      exact I1.fpOk (Nat.le_refl _) (I1.hok.fresh (Nat.le_refl _))
  · obtain ⟨t, rfl⟩ := r1
    by_cases ha : z.cps.all (· < 128) = true
    · exact wpAny_pyIter_ascii ha (pi_one (tk := s1.toks) I1 _ (turn_str _ z t _ (.inl rfl)) ⟨_, Heap.get?_push_size _ rfl, rfl, rfl⟩ q)
    · exact wpAny_pyIter_wide (by simpa using ha) (pi_one (tk := s1.toks) I1 _ (turn_str _ z t _ (.inr rfl)) ⟨_, Heap.get?_push_size _ rfl, rfl, rfl⟩ q)

/-! ### a def that may be called by its name -/
structure Cal (P : Program) (w : World) (K : PySem.W.Frag) (mg : Str → Option Value) (base : Heap) (k : Nat) (x : Str) (sp : Sp) : Prop where
  ex : ∃ (f : Addr) (fd : FuncData) (ps : List Str), FnOk P w K mg base L2.CX0 k f fd ps sp ∧ mg x = some (.ref f) ∧ PySem.W.keepIn K (.ref f) = true ∧ Binds K fd ps []
section
variable {X : Cx} {k j : Nat} {x : Str} {sp : Sp} {p pos : Pos} {e : Expr} {es : List Expr} {t : TA}
theorem pe_cA (c : Cal X.prog X.w X.K X.mg X.base k x sp) (hr : Room j X.A) (hk : k ≤ j) (hg : Gl X x) (ha : PA X (e :: es) t)
    (hdb : (x == ("__debug__" : Str)) = false := by decide) (he : starEach (e :: es) X.env = (false, eval e X.env) :: starEach es X.env := by rfl) (hpl : (backTo pos (starEach es X.env)).any (·.1) = false := by rfl) :
    PE X (.Call (.Name x p) (e :: es) [] pos) (tCall sp [] L2.E0 t) := by
  obtain ⟨f, fd, ps, F, hm, kp, b⟩ := c.ex
  exact pe_call F (hr.mono hk) hg hm kp b .nil L2.pass0 ha hdb he hpl
end
section
variable {P : Program} {w : World} {K : PySem.W.Frag} {mg : Str → Option Value} {base : Heap}
/-- what the head tells of one def -/
structure At (K : PySem.W.Frag) (mg : Str → Option Value) (x : Str) (st : Stmt) : Prop where
  ex : ∃ (f : Addr) (fd : FuncData), FunD K x x (defArgs st) (defBody st) (defScope st) [] [] f fd ∧ mg x = some (.ref f)
theorem fnok_of {x : Str} {st : Stmt} {f : Addr} {fd : FuncData} {N ps : List Str} {k : Nat} {sp : Sp} (F : FunD K x x (defArgs st) (defBody st) (defScope st) [] [] f fd) (S : FnScope N ps (defScope st)) (len : ∀ vs H Q E, sp vs H Q E → vs.length = ps.length)
    (hbody : ∀ (cdv : Value) (A : Around) (outer : List Env) (s : Shared) (H : Hp) (vs : List V) (Q : VK) (E : XK), Room k (A.deeper (envOfC x (defScope st) s.heap.objs.size f cdv)) → sp vs H Q E →
      ∃ t, PSs (cxOf L2.CX0 P w K mg base N x (defScope st) f cdv A outer s H E).nox (defBody st) t ∧ t { nx := fun _ H' => Q .non H', rt := Q } (start N vs) H) : FnOk P w K mg base L2.CX0 (k + 1) f fd ps sp := by
  refine F.ok S len fun cdv A outer s H vs Q E hr hsp => ?_
  obtain ⟨t, h, q⟩ := hbody cdv A outer s H vs Q E hr hsp
  exact ⟨t, h.nox, q⟩
theorem cal_of {x : Str} {st : Stmt} {N ps : List Str} {k : Nat} {sp : Sp} (F : At K mg x st) (S : FnScope N ps (defScope st)) (len : ∀ vs H Q E, sp vs H Q E → vs.length = ps.length)
    (hb : ∀ (kV doc pm : Value) (an : Option Addr) (cdv ct : Value) (us : List Value), us.length = ps.length → bindArgs (PySem.W.fnOf x x (defArgs st) (defBody st) (defScope st) .none kV doc pm an cdv ct) ⟨us, []⟩ = pure (ps.zip us))
    (hbody : ∀ (f : Addr) (cdv : Value) (A : Around) (outer : List Env) (s : Shared) (H : Hp) (vs : List V) (Q : VK) (E : XK), Room k (A.deeper (envOfC x (defScope st) s.heap.objs.size f cdv)) → sp vs H Q E →
      ∃ t, PSs (cxOf L2.CX0 P w K mg base N x (defScope st) f cdv A outer s H E).nox (defBody st) t ∧ t { nx := fun _ H' => Q .non H', rt := Q } (start N vs) H) : Cal P w K mg base (k + 1) x sp := by
  obtain ⟨f, fd, F, m⟩ := F.ex
  refine ⟨f, fd, ps, F.ok S len fun cdv A outer s H vs Q E hr hsp => ?_, m, F.kp, F.bindsN hb⟩
  obtain ⟨t, h, q⟩ := hbody f cdv A outer s H vs Q E hr hsp
  exact ⟨t, h.nox, q⟩
end

/-! ### defs with defaults -/
structure AtD (K : PySem.W.Frag) (mg : Str → Option Value) (x : Str) (st : Stmt) (dvs : List V) (kws : List (Str × V)) : Prop where
  ex : ∃ (f : Addr) (fd : FuncData), FunD K x x (defArgs st) (defBody st) (defScope st) dvs kws f fd ∧ mg x = some (.ref f)
structure CalD (P : Program) (w : World) (K : PySem.W.Frag) (mg : Str → Option Value) (base : Heap) (k : Nat) (x : Str) (sp : Sp) (dvs : List V) : Prop where
  ex : ∃ (f : Addr) (fd : FuncData) (ps : List Str) (ds : List Value), FnOk P w K mg base L2.CX0 k f fd ps sp ∧ mg x = some (.ref f) ∧ PySem.W.keepIn K (.ref f) = true ∧ Binds K fd ps ds ∧ Vals dvs ds
section
variable {X : Cx} {k j : Nat} {x : Str} {sp : Sp} {dvs : List V} {p pos : Pos} {e : Expr} {es : List Expr} {t : TA}
theorem pe_cD (c : CalD X.prog X.w X.K X.mg X.base k x sp dvs) (hr : Room j X.A) (hk : k ≤ j) (hg : Gl X x) (ha : PA X (e :: es) t)
    (hdb : (x == ("__debug__" : Str)) = false := by decide) (he : starEach (e :: es) X.env = (false, eval e X.env) :: starEach es X.env := by rfl) (hpl : (backTo pos (starEach es X.env)).any (·.1) = false := by rfl) :
    PE X (.Call (.Name x p) (e :: es) [] pos) (tCall sp dvs L2.E0 t) := by
  obtain ⟨f, fd, ps, ds, F, hm, kp, b, hd⟩ := c.ex
  exact pe_call F (hr.mono hk) hg hm kp b hd L2.pass0 ha hdb he hpl
end
section
variable {P : Program} {w : World} {K : PySem.W.Frag} {mg : Str → Option Value} {base : Heap}
theorem calD_of {x : Str} {st : Stmt} {N ps : List Str} {k : Nat} {sp : Sp} {dvs : List V} (F : AtD K mg x st dvs []) (S : FnScope N ps (defScope st)) (len : ∀ vs H Q E, sp vs H Q E → vs.length = ps.length)
    (hbody : ∀ (f : Addr) (cdv : Value) (A : Around) (outer : List Env) (s : Shared) (H : Hp) (vs : List V) (Q : VK) (E : XK), Room k (A.deeper (envOfC x (defScope st) s.heap.objs.size f cdv)) → sp vs H Q E →
      ∃ t, PSs (cxOf L2.CX0 P w K mg base N x (defScope st) f cdv A outer s H E).nox (defBody st) t ∧ t { nx := fun _ H' => Q .non H', rt := Q } (start N vs) H) (n j : Nat) (hd : dvs ≠ []) (hn : n + (dvs.length - j) = ps.length)
    (hb : ∀ (T : Addr) (kV doc pm : Value) (an : Option Addr) (cdv ct : Value) (us its : List Value), us.length = n → its.length = dvs.length →
      ∃ k, bindArgs (PySem.W.fnOf x x (defArgs st) (defBody st) (defScope st) (.ref T) kV doc pm an cdv ct) ⟨us, []⟩ = seqItems? (.ref T) >>= k ∧ k (some its.toArray) = pure (ps.zip (us ++ its.drop j))) : CalD P w K mg base (k + 1) x sp (dvs.drop j) := by
  obtain ⟨f, fd, F, m⟩ := F.ex
  obtain ⟨ds, hv, b⟩ := F.binds1 n j hd hn hb
  refine ⟨f, fd, ps, ds, F.ok S len fun cdv A outer s H vs Q E hr hsp => ?_, m, F.kp, b, hv⟩
  obtain ⟨t, h, q⟩ := hbody f cdv A outer s H vs Q E hr hsp
  exact ⟨t, h.nox, q⟩
end

/-! ### readings, step by step -/
section
variable {K : PySem.W.Frag} {σ : L2.St} {H : Hp} {Q : VK} {QB : Bool → Hp → Prop} {QA : List V → Hp → Prop} {v x y : V} {i j : Nat} {ta tb te tc : TE} {tl : TA} {r r' : R2} {D : Ends} {t u c : TT} {s1 s2 : TS} {a : Addr}
theorem r_var (h : σ[i]? = some (some v)) (q : Q v H) : tVar i σ H Q := ⟨v, h, q⟩
theorem r_c (q : Q v H) : tC v σ H Q := q
theorem r_op (q : ta σ H fun x H1 => tb σ H1 fun y H2 => r x y H2 Q) : tOp r ta tb σ H Q := q
theorem r_un {ru : V → Hp → VK → Prop} (q : ta σ H fun x H1 => ru x H1 Q) : tUn ru ta σ H Q := q
theorem r_nil (q : QA [] H) : tNil σ H QA := q
theorem r_cons (q : te σ H fun x H1 => tl σ H1 fun xs H2 => QA (x :: xs) H2) : tCons te tl σ H QA := q
theorem r_lst (q : tl σ H fun xs H1 => xs.length ≤ sizeLine ∧ ∀ p, H1 p = none → Q (.ref p) (upd H1 p (.lst xs))) : tLst tl σ H Q := q
theorem r_tup (q : tl σ H fun xs H1 => xs.length ≤ sizeLine ∧ ∀ p, H1 p = none → Q (.ref p) (upd H1 p (.tup xs))) : tTup tl σ H Q := q
theorem r_cb {rc : List V → Hp → VK → Prop} (q : tl σ H fun vs H1 => rc vs H1 Q) : tCB rc tl σ H Q := q
theorem r_call {sp : Sp} {dvs : List V} {E : XK} (q : tl σ H fun vs H1 => sp (vs ++ dvs) H1 Q E) : tCall sp dvs E tl σ H Q := q
theorem r_test (q : te σ H fun x H' => ∃ k, x = .bl k ∧ QB k H') : tTest te σ H QB := q
theorem r_B (q : te σ H fun x H' => ∃ k, x = .bl k ∧ QB k H') : tB te σ H QB := q
theorem r_bl {b : Bool} {QC : Bool → Prop} (q : QC b) : ∃ k, V.bl b = .bl k ∧ QC k := ⟨b, rfl, q⟩
theorem r_and (q : t σ H fun c H1 => if c = true then u σ H1 QB else QB false H1) : tAnd t u σ H QB := q
theorem r_or (q : t σ H fun c H1 => if c = true then QB true H1 else u σ H1 QB) : tOr t u σ H QB := q
theorem r_not (q : t σ H fun c H1 => QB (!c) H1) : tNot t σ H QB := q
theorem r_andV (q : ta σ H fun x H1 => ∃ c, x = .bl c ∧ if c = true then tb σ H1 Q else Q (.bl false) H1) : tAndV ta tb σ H Q := q
theorem r_orV (q : ta σ H fun x H1 => ∃ c, x = .bl c ∧ if c = true then Q (.bl true) H1 else tb σ H1 Q) : tOrV ta tb σ H Q := q
theorem r_notV (q : ta σ H fun x H1 => ∃ c, x = .bl c ∧ Q (.bl (!c)) H1) : tNotV ta σ H Q := q
theorem r_if (q : t σ H fun c H1 => if c = true then ta σ H1 Q else tb σ H1 Q) : tIf t ta tb σ H Q := q
theorem r_chain (q : ta σ H fun x H1 => tb σ H1 fun y H2 => r x y H2 fun z H3 => ∃ k, z = .bl k ∧ (if k = true then tc σ H3 fun w' H4 => r' y w' H4 Q else Q (.bl false) H3)) : tChain r r' ta tb tc σ H Q := q
theorem r_sl {rs : V → Option Int → Option Int → Hp → VK → Prop} {tlo thi : TO} (q : te σ H fun x H1 => tlo σ H1 fun l H2 => thi σ H2 fun u H3 => rs x l u H3 Q) : tSl rs te tlo thi σ H Q := q
theorem r_nopart {QO : Option Int → Hp → Prop} (q : QO none H) : tNoPart σ H QO := q
theorem r_part {QO : Option Int → Hp → Prop} (q : te σ H fun x H1 => ∃ i, x = .int i ∧ QO (some i) H1) : tPart te σ H QO := q
theorem r_m1 {rm : V → List V → Hp → VK → Prop} (q : ta σ H fun x H1 => (∃ a, x = .str a) ∧ tb σ H1 fun y H2 => rm x [y] H2 Q) : tM1 rm ta tb σ H Q := q
theorem r_bm {T : String} {rm : V → List V → Hp → VK → Prop} (q : ta σ H fun x H1 => tyV K T x H1 ∧ tl σ H1 fun xs H2 => rm x xs H2 Q) : tBM K T rm ta tl σ H Q := q
theorem r_next (q : D.nx σ H) : tNext D σ H := q
theorem r_seq (q : s1 { D with nx := s2 D } σ H) : tSeq s1 s2 D σ H := q
theorem r_asg (q : te σ H fun x H1 => D.nx (σ.set i (some x)) H1) : tAsg te (gName i) D σ H := q
theorem r_asgS {rs : V → V → V → Hp → (Hp → Prop) → Prop} (q : te σ H fun x H1 => ta σ H1 fun o H2 => tb σ H2 fun ix H3 => rs o ix x H3 fun H4 => D.nx σ H4) : tAsg te (gSub ta tb rs) D σ H := q
theorem r_par (q : tl σ H fun vs H1 => ∃ v w, vs = [v, w] ∧ D.nx ((σ.set i (some v)).set j (some w)) H1) : tPar i j tl D σ H := q
theorem r_ret (q : te σ H D.rt) : tRet te D σ H := q
theorem r_drop (q : te σ H fun _ H1 => D.nx σ H1) : tDrop te D σ H := q
theorem r_ifS (q : c σ H fun b H1 => if b = true then s1 D σ H1 else s2 D σ H1) : tIfS c s1 s2 D σ H := q
theorem r_brk (q : D.bk σ H) : tBreak D σ H := q
theorem r_cont (q : D.ct σ H) : tCont D σ H := q
/-! values -/
theorem r_I0 {g : Int → Int → V} {i j : Int} (q : Q (g i j) H) : rI0 g (.int i) (.int j) H Q := ⟨i, j, rfl, rfl, q⟩
theorem r_I {C : Int → Int → Prop} {g : Int → Int → V} {i j : Int} (c : C i j) (q : Q (g i j) H) : rI C g (.int i) (.int j) H Q := ⟨i, j, rfl, rfl, c, q⟩
theorem r_U {g : Int → V} {i : Int} (q : Q (g i) H) : rU g (.int i) H Q := ⟨i, rfl, q⟩
theorem r_addI {i j : Int} (q : Q (.int (i + j)) H) : rAddA K (.int i) (.int j) H Q := .inl ⟨i, j, rfl, rfl, q⟩
theorem r_addS {i j : Str} (h : i.length + j.length ≤ sizeLine) (q : Q (.str (i ++ j)) H) : rAddA K (.str i) (.str j) H Q := .inr (.inl ⟨i, j, rfl, rfl, h, q⟩)
theorem r_addL {p q : Addr} {xs ys : List V} (h1 : H p = some (.lst xs)) (h2 : H q = some (.lst ys)) (hl : xs.length + ys.length ≤ sizeLine) (k : ∀ l, H l = none → Q (.ref l) (upd H l (.lst (xs ++ ys)))) : rAddA K (.ref p) (.ref q) H Q :=
  .inr (.inr (.inl ⟨p, q, xs, ys, rfl, rfl, h1, h2, hl, k⟩))
theorem r_mulS {z : Str} {n : Int} (c : MulOk z n) (q : Q (.str (Txt.mul z n)) H) : rMulA (.str z) (.int n) H Q := .inr (.inr ⟨z, n, rfl, rfl, c, q⟩)
theorem r_mulL {p : Addr} {n : Int} {xs : List V} (h : H p = some (.lst xs)) (h1 : 0 ≤ n) (h2 : n < 2 ^ 62) (h3 : xs.length * n.toNat ≤ sizeLine) (q : ∀ l, H l = none → Q (.ref l) (upd H l (.lst (List.replicate n.toNat xs).flatten))) : rMulA (.ref p) (.int n) H Q :=
  .inr (.inl ⟨p, n, xs, rfl, rfl, h, by omega, by omega, h3, q⟩)
theorem r_mulI {i j : Int} (c : CMul i j) (q : Q (.int (i * j)) H) : rMulA (.int i) (.int j) H Q := .inl ⟨i, j, rfl, rfl, c, q⟩
theorem r_lenS {z : Str} (h : z.length ≤ sizeLine) (q : Q (.int (z.length : Nat)) H) : rLenA K [.str z] H Q := ⟨_, _, rfl, ⟨h, rfl⟩, q⟩
theorem r_lenL {p : Addr} {xs : List V} (h : SqL K H p xs) (q : Q (.int (xs.length : Nat)) H) : rLenA K [.ref p] H Q := ⟨_, _, rfl, .inl ⟨_, h, rfl⟩, q⟩
theorem r_lenT {p : Addr} {xs : List V} (h : SqT K H p xs) (q : Q (.int (xs.length : Nat)) H) : rLenA K [.ref p] H Q := ⟨_, _, rfl, .inr ⟨_, h, rfl⟩, q⟩
theorem r_abs {i : Int} (q : Q (.int (if i < 0 then -i else i)) H) : rAbsA [.int i] H Q := ⟨i, rfl, q⟩
theorem r_intI {i : Int} (q : Q (.int i) H) : rIntA [.int i] H Q := .inl ⟨i, rfl, q⟩
theorem r_max2 {i j : Int} (q : Q (.int (if j > i then j else i)) H) : rMax2A [.int i, .int j] H Q := ⟨i, j, rfl, q⟩
theorem r_min2 {i j : Int} (q : Q (.int (if j < i then j else i)) H) : rMin2A [.int i, .int j] H Q := ⟨i, j, rfl, q⟩
theorem r_eqS (h : scal x y = true) (q : Q (.bl (decide (x = y))) H) : rEqA K x y H Q := .inl ⟨h, q⟩
theorem r_neS (h : scal x y = true) (q : Q (.bl (!decide (x = y))) H) : rNeA K x y H Q := .inl ⟨h, q⟩
theorem r_eqD {d e : PyData} (h1 : Dp K H x d) (h2 : Dp K H y e) (s1 : SeqAt.shaped d = true) (s2 : SeqAt.shaped e = true) (q : Q (.bl (PyData.eqv d e)) H) : rEqA K x y H Q := .inr ⟨d, e, h1, h2, s1, s2, q⟩
theorem r_neD {d e : PyData} (h1 : Dp K H x d) (h2 : Dp K H y e) (s1 : SeqAt.shaped d = true) (s2 : SeqAt.shaped e = true) (q : Q (.bl (!PyData.eqv d e)) H) : rNeA K x y H Q := .inr ⟨d, e, h1, h2, s1, s2, q⟩
theorem r_ltI {i j : Int} (q : Q (.bl (decide (i < j))) H) : rLtA (.int i) (.int j) H Q := .inl ⟨i, j, rfl, rfl, q⟩
theorem r_leI {i j : Int} (q : Q (.bl (decide (i ≤ j))) H) : rLeA (.int i) (.int j) H Q := ⟨i, j, rfl, rfl, q⟩
theorem r_gtI {i j : Int} (q : Q (.bl (decide (j < i))) H) : rGtA (.int i) (.int j) H Q := ⟨i, j, rfl, rfl, q⟩
theorem r_geI {i j : Int} (q : Q (.bl (decide (j ≤ i))) H) : rGeA (.int i) (.int j) H Q := ⟨i, j, rfl, rfl, q⟩
theorem r_isN (q : Q (.bl (decide (x = .non))) H) : rIsA x .non H Q := .inl ⟨rfl, q⟩
theorem r_isN_non (q : Q (.bl true) H) : rIsA .non .non H Q := .inl ⟨rfl, q⟩
theorem r_isnotN_non (q : Q (.bl false) H) : rIsNotA .non .non H Q := .inl ⟨rfl, q⟩
theorem r_isN_int {i : Int} (q : Q (.bl false) H) : rIsA (.int i) .non H Q := .inl ⟨rfl, q⟩
theorem r_isnotN_int {i : Int} (q : Q (.bl true) H) : rIsNotA (.int i) .non H Q := .inl ⟨rfl, q⟩
theorem r_isN_str {z : Str} (q : Q (.bl false) H) : rIsA (.str z) .non H Q := .inl ⟨rfl, q⟩
theorem r_isnotN_str {z : Str} (q : Q (.bl true) H) : rIsNotA (.str z) .non H Q := .inl ⟨rfl, q⟩
theorem r_isN_bl {b : Bool} (q : Q (.bl false) H) : rIsA (.bl b) .non H Q := .inl ⟨rfl, q⟩
theorem r_isnotN_bl {b : Bool} (q : Q (.bl true) H) : rIsNotA (.bl b) .non H Q := .inl ⟨rfl, q⟩
theorem r_isN_ref {p : Addr} (q : Q (.bl false) H) : rIsA (.ref p) .non H Q := .inl ⟨rfl, q⟩
theorem r_isnotN_ref {p : Addr} (q : Q (.bl true) H) : rIsNotA (.ref p) .non H Q := .inl ⟨rfl, q⟩
theorem r_isB {a b : Bool} (q : Q (.bl (decide (a = b))) H) : rIsA (.bl a) (.bl b) H Q := .inr ⟨a, b, rfl, rfl, q⟩
theorem r_isnotN (q : Q (.bl (!decide (x = .non))) H) : rIsNotA x .non H Q := .inl ⟨rfl, q⟩
theorem r_isnotB {a b : Bool} (q : Q (.bl (!decide (a = b))) H) : rIsNotA (.bl a) (.bl b) H Q := .inr ⟨a, b, rfl, rfl, q⟩
theorem r_inS {c : Nat} {z : Str} (q : Q (.bl (decide (c ∈ z.cps.toList))) H) : rInA K (.str ⟨#[c]⟩) (.str z) H Q := .inl ⟨c, z, rfl, rfl, q⟩
theorem r_ixL {p : Addr} {xs : List V} {i : Int} (h : SqL K H p xs) (ha : atI xs i = some v) (q : Q v H) : rIx K (.ref p) (.int i) H Q := .inl ⟨p, xs, i, v, rfl, rfl, h, ha, q⟩
theorem r_ixT {p : Addr} {xs : List V} {i : Int} (h : SqT K H p xs) (ha : atI xs i = some v) (q : Q v H) : rIx K (.ref p) (.int i) H Q := .inr (.inl ⟨p, xs, i, v, rfl, rfl, h, ha, q⟩)
theorem r_ixS {z : Str} {i : Int} {c : Nat} (h : z.length ≤ sizeLine) (ha : atI z.cps.toList i = some c) (q : Q (.str ⟨#[c]⟩) H) : rIx K (.str z) (.int i) H Q := .inr (.inr ⟨z, i, c, rfl, rfl, h, ha, q⟩)
theorem r_setL {p : Addr} {xs : List V} {k : Int} {j : Nat} {QH : Hp → Prop} (h : H p = some (.lst xs)) (hj : ixN xs.length k = some j) (q : QH (upd H p (.lst (xs.set j v)))) : rSetL (.ref p) (.int k) v H QH := ⟨p, xs, k, j, rfl, rfl, h, hj, q⟩
theorem r_intO {i : Int} {QC : Int → Prop} (q : QC i) : ∃ k, V.int i = .int k ∧ QC k := ⟨i, rfl, q⟩
theorem r_two {v w : V} {QC : V → V → Prop} (q : QC v w) : ∃ v1 w1, [v, w] = [v1, w1] ∧ QC v1 w1 := ⟨v, w, rfl, q⟩
theorem r_slS {z : Str} {lo hi : Option Int} (h : z.length ≤ sizeLine) (q : Q (.str (cutS z lo hi)) H) : rSlA3 K (.str z) lo hi H Q := .inl ⟨z, rfl, h, q⟩
theorem r_slL {p : Addr} {xs : List V} {lo hi : Option Int} (h : SqL K H p xs) (q : ∀ l, H l = none → Q (.ref l) (upd H l (.lst (cutV xs lo hi)))) : rSlA3 K (.ref p) lo hi H Q := .inr ⟨p, xs, rfl, h, q⟩
theorem r_app {p : Addr} {xs : List V} (h : H p = some (.lst xs)) (hl : xs.length < sizeLine) (q : Q .non (upd H p (.lst (xs ++ [y])))) : rAppend (.ref p) [y] H Q := ⟨p, xs, y, rfl, rfl, h, hl, q⟩
theorem r_tyL {p : Addr} {xs : List V} {R : Prop} (h : SqL K H p xs) (q : R) : tyV K "list" (.ref p) H ∧ R := ⟨.inl ⟨rfl, _, h⟩, q⟩
end

theorem iteD {p : Prop} {dp : Decidable p} {A B : Prop} (h1 : p → A) (h2 : ¬ p → B) : if decide p = true then A else B := by
  by_cases h : p
  · rw [if_pos (decide_eq_true h)]
    exact h1 h
  · rw [if_neg (by simp [h])]
    exact h2 h
theorem iteND {p : Prop} {dp : Decidable p} {A B : Prop} (h1 : ¬ p → A) (h2 : p → B) : if (!decide p) = true then A else B := by
  by_cases h : p
  · rw [if_neg (by simp [h])]
    exact h2 h
  · rw [if_pos (by simp [h])]
    exact h1 h
theorem iteB {c : Bool} {A B : Prop} (h1 : c = true → A) (h2 : c = false → B) : if c = true then A else B := by
  cases c with
  | true => rw [if_pos rfl]; exact h1 rfl
  | false => rw [if_neg Bool.false_ne_true]; exact h2 rfl
theorem iteNB {c : Bool} {A B : Prop} (h1 : c = false → A) (h2 : c = true → B) : if (!c) = true then A else B := by
  cases c with
  | true => exact h2 rfl
  | false => exact h1 rfl
/-! ### loops -/
section
variable {K : PySem.W.Frag} {σ : L2.St} {H : Hp} {D : Ends} {wi : TI} {g : TG} {tb : TS} {ta : TA} {te : TE}
theorem r_for (q : wi σ H fun J H1 => ∃ W : Nat → Nat → L2.St → Hp → Prop, (∃ m, W 0 m σ H1) ∧ ∀ i m σ H, W i m σ H →
      (J.stop i H ∧ D.nx σ H) ∨ (J.go i H ∧ ∃ N : L2.St → Hp → Prop, (∀ σ' H', N σ' H' → ∃ m', m' < m ∧ W (i + 1) m' σ' H') ∧ ∀ x H', J.yld i H x H' → g x σ H' fun σ2 H2 => tb { D with nx := N, ct := N, bk := D.nx } σ2 H2)) : tFor wi g tb D σ H := q
theorem r_rng1 {R : It → Hp → Prop} (q : ta σ H fun vs H1 => ∃ j : Int, vs = [.int j] ∧ -(2 ^ 62) ≤ j ∧ j < 2 ^ 62 ∧ R (Itr 0 j.toNat) H1) : iRng1 ta σ H R := q
theorem r_iAny {R : It → Hp → Prop} (q : te σ H fun x H1 => (∃ a, x = .ref a ∧ (∃ xs, SqL K H1 a xs) ∧ R (Itl K a) H1) ∨ (∃ a, x = .ref a ∧ (∃ xs, SqT K H1 a xs) ∧ R (Itt K a) H1) ∨ (∃ z, x = .str z ∧ R (Its z) H1)) : iAny K te σ H R := q
theorem r_iList {R : It → Hp → Prop} (q : te σ H fun x H1 => ∃ a, x = .ref a ∧ (∃ xs, SqL K H1 a xs) ∧ R (Itl K a) H1) : iList K te σ H R := q
theorem r_lc {tt : TT} {vs : List Nat} {Q : VK} (q : wi σ H fun J H1 => ∀ D, H1 D = none → ∃ W : Nat → Nat → Hp → Prop, (∃ m, W 0 m (upd H1 D (.lst []))) ∧ ∀ i m H, W i m H →
  (J.stop i H ∧ Q (.ref D) H) ∨ (J.go i H ∧ ∃ Nx : Hp → Prop, (∀ H', Nx H' → ∃ m', m' < m ∧ W (i + 1) m' H') ∧ ∀ x H', J.yld i H x H' → g x (wipe σ vs) H' fun σ2 H2 => wipe σ2 vs = wipe σ vs ∧ tt σ2 H2 fun b H3 =>
    if b = true then te σ2 H3 fun y H4 => ∃ acc, H4 D = some (.lst acc) ∧ acc.length < sizeLine ∧ Nx (upd H4 D (.lst (acc ++ [y]))) else Nx H3)) : tLc wi g tt te vs σ H Q := q
theorem r_yes {QB : Bool → Hp → Prop} (q : QB true H) : tYes σ H QB := q
theorem r_gN {i : Nat} {v : V} {R : L2.St → Hp → Prop} (q : R (σ.set i (some v)) H) : gName i v σ H R := q
end

/-! ### a comprehension whose elements only read (and lay new things) -/
theorem lc_pure {J : It} {n : Nat} {G : Hp → Prop} {Y : Nat → Hp → V → Hp → Prop} (w : L2.Walk J n G Y) {te : TE} {j : Nat} {vs : List Nat} {σ : L2.St} {H1 : Hp} {Qd : Hp → Prop} {D : Addr} (hD : H1 D = none) (it f : Nat → V)
    (hy : ∀ i H x H', i < n → G H → Y i H x H' → H' = H ∧ x = it i) (hG : ∀ H', Evl.Ex H1 H' → G H') (hw : ∀ x, wipe ((wipe σ vs).set j (some x)) vs = wipe σ vs) (hn : n ≤ 1000000)
    (hel : ∀ i, i < n → ∀ H', Evl.Ex H1 H' → ∀ Q' : VK, (∀ H'', Evl.Ex H' H'' → Q' (f i) H'') → te ((wipe σ vs).set j (some (it i))) H' Q')
    (q : ∀ H', Evl.Ex H1 H' → H' D = some (.lst ((List.range n).map f)) → Qd H') :
    ∃ W : Nat → Nat → Hp → Prop, (∃ m, W 0 m (upd H1 D (.lst []))) ∧ ∀ i m H, W i m H →
      (J.stop i H ∧ Qd H) ∨ (J.go i H ∧ ∃ Nx : Hp → Prop, (∀ H', Nx H' → ∃ m', m' < m ∧ W (i + 1) m' H') ∧ ∀ x H', J.yld i H x H' → gName j x (wipe σ vs) H' fun σ2 H2 => wipe σ2 vs = wipe σ vs ∧ tYes σ2 H2 fun b H3 =>
        if b = true then te σ2 H3 fun y H4 => ∃ acc, H4 D = some (.lst acc) ∧ acc.length < sizeLine ∧ Nx (upd H4 D (.lst (acc ++ [y]))) else Nx H3) := by
  refine lc_it w (fun i H' => Evl.Ex H1 H' ∧ H' D = some (.lst ((List.range i).map f))) ⟨Evl.Ex.new hD, upd_same⟩ (fun i H' _ p => hG H' p.1) ?_ (fun H' p => q H' p.1 p.2)
  rintro i x H H' hi ⟨e1, e2⟩ hyy
  obtain ⟨rfl, rfl⟩ := hy i H x H' hi (hG H e1) hyy
  refine ⟨hw _, r_yes (iteT ?_)⟩
  refine hel i hi _ e1 _ fun H2 e3 => ⟨_, e3 _ _ e2, ?_, Evl.Ex.mut (e1.trans e3) hD, ?_⟩
  · rw [List.length_map, List.length_range, sizeLine_eq]
    omega
  · rw [upd_same, List.range_succ, List.map_append]
    rfl
/-- over a text -/
theorem lc_str {z : Str} {te : TE} {j : Nat} {vs : List Nat} {σ : L2.St} {H1 : Hp} {Qd : Hp → Prop} {D : Addr} (hD : H1 D = none) (f : Nat → V) (hw : ∀ x, wipe ((wipe σ vs).set j (some x)) vs = wipe σ vs) (hn : z.length ≤ 1000000)
    (hel : ∀ c, c ∈ z.cps.toList → ∀ H', Evl.Ex H1 H' → ∀ Q' : VK, (∀ H'', Evl.Ex H' H'' → Q' (f c) H'') → te ((wipe σ vs).set j (some (.str ⟨#[c]⟩))) H' Q')
    (q : ∀ H', Evl.Ex H1 H' → H' D = some (.lst (z.cps.toList.map f)) → Qd H') :
    ∃ W : Nat → Nat → Hp → Prop, (∃ m, W 0 m (upd H1 D (.lst []))) ∧ ∀ i m H, W i m H →
      ((Its z).stop i H ∧ Qd H) ∨ ((Its z).go i H ∧ ∃ Nx : Hp → Prop, (∀ H', Nx H' → ∃ m', m' < m ∧ W (i + 1) m' H') ∧ ∀ x H', (Its z).yld i H x H' → gName j x (wipe σ vs) H' fun σ2 H2 => wipe σ2 vs = wipe σ vs ∧ tYes σ2 H2 fun b H3 =>
        if b = true then te σ2 H3 fun y H4 => ∃ acc, H4 D = some (.lst acc) ∧ acc.length < sizeLine ∧ Nx (upd H4 D (.lst (acc ++ [y]))) else Nx H3) := by
  have sz : z.cps.size = z.length := rfl
  have key : ∀ i, i < z.cps.size → z.cps.getD i 0 ∈ z.cps.toList := fun i hi => by
    have : z.cps.getD i 0 = z.cps[i] := by simp [Array.getD, hi]
    rw [this]
    exact Array.getElem_mem_toList hi
  refine lc_pure walk_str hD (fun i => .str ⟨#[z.cps.getD i 0]⟩) (fun i => f (z.cps.getD i 0)) ?_ (fun _ _ => trivial) hw (by omega) (fun i hi => hel _ (key i hi)) (fun H' e1 e3 => q H' e1 ?_)
  · rintro i H x H' hi _ ⟨e, c, hc, rfl⟩
    refine ⟨e, ?_⟩
    simp [Array.getD, hi] at hc ⊢
    exact hc.symm
  · rw [e3]
    congr 2
    refine List.ext_getElem (by simp) fun i h1 h2 => ?_
    simp at h1
    simp [Array.getD, h1]
/-- over a list or tuple -/
theorem lc_seq {K : PySem.W.Frag} {a : Addr} {xs : List V} {te : TE} {j : Nat} {vs : List Nat} {σ : L2.St} {H1 : Hp} {Qd : Hp → Prop} {D : Addr} (hD : H1 D = none) (f : V → V) (hs : SqL K H1 a xs) (hw : ∀ x, wipe ((wipe σ vs).set j (some x)) vs = wipe σ vs) (hn : xs.length ≤ 1000000)
    (hel : ∀ v, v ∈ xs → ∀ H', Evl.Ex H1 H' → ∀ Q' : VK, (∀ H'', Evl.Ex H' H'' → Q' (f v) H'') → te ((wipe σ vs).set j (some v)) H' Q')
    (q : ∀ H', Evl.Ex H1 H' → H' D = some (.lst (xs.map f)) → Qd H') :
    ∃ W : Nat → Nat → Hp → Prop, (∃ m, W 0 m (upd H1 D (.lst []))) ∧ ∀ i m H, W i m H →
      ((Itl K a).stop i H ∧ Qd H) ∨ ((Itl K a).go i H ∧ ∃ Nx : Hp → Prop, (∀ H', Nx H' → ∃ m', m' < m ∧ W (i + 1) m' H') ∧ ∀ x H', (Itl K a).yld i H x H' → gName j x (wipe σ vs) H' fun σ2 H2 => wipe σ2 vs = wipe σ vs ∧ tYes σ2 H2 fun b H3 =>
        if b = true then te σ2 H3 fun y H4 => ∃ acc, H4 D = some (.lst acc) ∧ acc.length < sizeLine ∧ Nx (upd H4 D (.lst (acc ++ [y]))) else Nx H3) := by
  have key : ∀ i, i < xs.length → xs.getD i .non ∈ xs := fun i hi => by
    rw [List.getD_eq_getElem?_getD, List.getElem?_eq_getElem hi]
    exact List.getElem_mem hi
  refine lc_pure walk_list hD (fun i => xs.getD i .non) (fun i => f (xs.getD i .non)) ?_ (fun _ e => Evl.ex_l e hs) hw (by omega) (fun i hi => hel _ (key i hi)) (fun H' e1 e3 => q H' e1 ?_)
  · rintro i H x H' hi _ ⟨e, hx⟩
    exact ⟨e, by rw [List.getD_eq_getElem?_getD, hx]; rfl⟩
  · rw [e3]
    congr 2
    refine List.ext_getElem (by simp) fun i h1 h2 => ?_
    simp at h1
    simp [List.getElem?_eq_getElem h1]
theorem lc_tupl {K : PySem.W.Frag} {a : Addr} {xs : List V} {te : TE} {j : Nat} {vs : List Nat} {σ : L2.St} {H1 : Hp} {Qd : Hp → Prop} {D : Addr} (hD : H1 D = none) (f : V → V) (hs : SqT K H1 a xs) (hw : ∀ x, wipe ((wipe σ vs).set j (some x)) vs = wipe σ vs) (hn : xs.length ≤ 1000000)
    (hel : ∀ v, v ∈ xs → ∀ H', Evl.Ex H1 H' → ∀ Q' : VK, (∀ H'', Evl.Ex H' H'' → Q' (f v) H'') → te ((wipe σ vs).set j (some v)) H' Q')
    (q : ∀ H', Evl.Ex H1 H' → H' D = some (.lst (xs.map f)) → Qd H') :
    ∃ W : Nat → Nat → Hp → Prop, (∃ m, W 0 m (upd H1 D (.lst []))) ∧ ∀ i m H, W i m H →
      ((Itt K a).stop i H ∧ Qd H) ∨ ((Itt K a).go i H ∧ ∃ Nx : Hp → Prop, (∀ H', Nx H' → ∃ m', m' < m ∧ W (i + 1) m' H') ∧ ∀ x H', (Itt K a).yld i H x H' → gName j x (wipe σ vs) H' fun σ2 H2 => wipe σ2 vs = wipe σ vs ∧ tYes σ2 H2 fun b H3 =>
        if b = true then te σ2 H3 fun y H4 => ∃ acc, H4 D = some (.lst acc) ∧ acc.length < sizeLine ∧ Nx (upd H4 D (.lst (acc ++ [y]))) else Nx H3) := by
  have key : ∀ i, i < xs.length → xs.getD i .non ∈ xs := fun i hi => by
    rw [List.getD_eq_getElem?_getD, List.getElem?_eq_getElem hi]
    exact List.getElem_mem hi
  refine lc_pure walk_tup hD (fun i => xs.getD i .non) (fun i => f (xs.getD i .non)) ?_ (fun _ e => Evl.ex_t e hs) hw (by omega) (fun i hi => hel _ (key i hi)) (fun H' e1 e3 => q H' e1 ?_)
  · rintro i H x H' hi _ ⟨e, hx⟩
    exact ⟨e, by rw [List.getD_eq_getElem?_getD, hx]; rfl⟩
  · rw [e3]
    congr 2
    refine List.ext_getElem (by simp) fun i h1 h2 => ?_
    simp at h1
    simp [List.getElem?_eq_getElem h1]
theorem r_all {K : PySem.W.Frag} {H : Hp} {Q : VK} {D : Addr} {bs : List Bool} (h : H D = some (.lst (bs.map V.bl))) (q : Q (.bl (bs.all id)) H) : rAll K [.ref D] H Q := ⟨D, bs, rfl, SqL.of h, q⟩
theorem r_any {K : PySem.W.Frag} {H : Hp} {Q : VK} {D : Addr} {bs : List Bool} (h : H D = some (.lst (bs.map V.bl))) (q : Q (.bl (bs.any id)) H) : rAny K [.ref D] H Q := ⟨D, bs, rfl, SqL.of h, q⟩

/-! ### the heap without the bag -/
def hid (b : Addr) (H : Hp) : Hp := fun a => if a = b then none else H a
section
variable {b a p : Addr} {H H' : Hp} {o o' : HO}
theorem hid_of (h : H a = some o) (ne : a ≠ b) : hid b H a = some o := by unfold hid; rw [if_neg ne]; exact h
theorem hid_get (h : hid b H a = some o) : H a = some o := by
  unfold hid at h
  by_cases e : a = b
  · rw [if_pos e] at h; cases h
  · rw [if_neg e] at h; exact h
theorem hid_ne (h : hid b H a = some o) : a ≠ b := by
  intro e
  unfold hid at h
  rw [if_pos e] at h
  cases h
theorem hid_bag : hid b (upd H b o) = hid b H := by
  funext a
  unfold hid
  by_cases e : a = b
  · rw [if_pos e, if_pos e]
  · rw [if_neg e, if_neg e, upd_ne e]
theorem hid_up (h : p ≠ b) : hid b (upd H p o) = upd (hid b H) p o := by
  funext a
  unfold hid
  by_cases e : a = b
  · rw [if_pos e, upd_ne (by rw [e]; exact h.symm), if_pos e]
  · by_cases e2 : a = p
    · rw [if_neg e, e2, upd_same, upd_same]
    · rw [if_neg e, upd_ne e2, upd_ne e2, if_neg e]
theorem hid_ex : Evl.Ex (hid b H) H := fun _ _ h => hid_get h
theorem hid_none (h : H p = none) : hid b H p = none := by
  unfold hid
  by_cases e : p = b
  · rw [if_pos e]
  · rw [if_neg e]; exact h
end
def BagL (n : Nat) (l : List V) : Prop := ∃ x y z : Int, l = [.int x, .int y, .int z] ∧ 0 ≤ y ∧ y ≤ 4294967296 ∧ 0 ≤ z ∧ z ≤ (n : Int)
theorem BagL.mono {n m : Nat} {l : List V} (h : BagL n l) (e : n ≤ m) : BagL m l := by
  obtain ⟨x, y, z, rfl, h1, h2, h3, h4⟩ := h
  exact ⟨x, y, z, rfl, h1, h2, h3, by omega⟩
/-- the bag at b, so many draws at most so far -/
def Bag (b : Addr) (n : Nat) (H : Hp) : Prop := ∃ l, H b = some (.lst l) ∧ BagL n l
structure Drw (b : Addr) (n : Nat) (H H' : Hp) : Prop where
  ex : Evl.Ex (hid b H) (hid b H')
  bag : Bag b n H'
theorem Drw.trans {b : Addr} {n m : Nat} {H H1 H2 : Hp} (x : Drw b n H H1) (y : Drw b m H1 H2) : Drw b m H H2 := ⟨x.ex.trans y.ex, y.bag⟩
theorem Bag.mono {b : Addr} {n m : Nat} {H : Hp} (h : Bag b n H) (e : n ≤ m) : Bag b m H := let ⟨l, h1, h2⟩ := h; ⟨l, h1, h2.mono e⟩
theorem Drw.mono {b : Addr} {n m : Nat} {H H' : Hp} (h : Drw b n H H') (e : n ≤ m) : Drw b m H H' := ⟨h.ex, h.bag.mono e⟩
theorem Bag.refl {b : Addr} {n : Nat} {H : Hp} (h : Bag b n H) : Drw b n H H := ⟨Evl.Ex.refl _, h⟩
/-- a new object -/
theorem Bag.new {b p : Addr} {n : Nat} {H : Hp} {o : HO} (h : Bag b n H) (hp : H p = none) : Drw b n H (upd H p o) ∧ hid b (upd H p o) p = some o := by
  obtain ⟨l, h1, h2⟩ := h
  have ne : p ≠ b := (ne_of_none h1 hp).symm
  refine ⟨⟨?_, l, ?_, h2⟩, ?_⟩
  · rw [hid_up ne]
    exact Evl.Ex.new (hid_none hp)
  · rw [upd_ne ne.symm]; exact h1
  · exact hid_of upd_same ne
/-- an object that is not the bag and that H0 did not know is changed -/
theorem Drw.put {b p : Addr} {n : Nat} {H0 H : Hp} {o : HO} (h : Drw b n H0 H) (hp : hid b H0 p = none) (ne : p ≠ b) : Drw b n H0 (upd H p o) := by
  obtain ⟨l, h1, h2⟩ := h.bag
  refine ⟨?_, l, ?_, h2⟩
  · rw [hid_up ne]
    exact Evl.Ex.mut h.ex hp
  · rw [upd_ne ne.symm]; exact h1
theorem Drw.l {K : PySem.W.Frag} {b a : Addr} {n : Nat} {H H' : Hp} {xs : List V} (h : Drw b n H H') (s : SqL K (hid b H) a xs) : SqL K (hid b H') a xs := Evl.ex_l h.ex s
theorem Drw.t {K : PySem.W.Frag} {b a : Addr} {n : Nat} {H H' : Hp} {xs : List V} (h : Drw b n H H') (s : SqT K (hid b H) a xs) : SqT K (hid b H') a xs := Evl.ex_t h.ex s
def SqA (K : PySem.W.Frag) (H : Hp) (a : Addr) (xs : List V) : Prop := SqL K H a xs ∨ SqT K H a xs
theorem SqA.mono {K : PySem.W.Frag} {H H' : Hp} {a : Addr} {xs : List V} (e : Evl.Ex H H') (h : SqA K H a xs) : SqA K H' a xs := by
  rcases h with h | h
  · exact .inl (Evl.ex_l e h)
  · exact .inr (Evl.ex_t e h)
/-- a word of small letters -/
def Word (m : Nat) (z : Str) : Prop := z.length ≤ m ∧ ∀ c ∈ z.cps.toList, 97 ≤ c ∧ c ≤ 122
/-- a class name -/
def Let (c : Nat) : Prop := (97 ≤ c ∧ c ≤ 122) ∨ (65 ≤ c ∧ c ≤ 90)
def ClsN (z : Str) : Prop := ∃ (c : Nat) (r : List Nat), z.cps.toList = c :: r ∧ (65 ≤ c ∧ c ≤ 90) ∧ (∀ d ∈ r, Let d) ∧ r.length ≤ 11
/-! ### isinstance -/
section
variable {K : PySem.W.Frag} {H : Hp} {Q : VK}
theorem ty_lst {a : Addr} {xs : List V} (h : SqL K H a xs) : TyX K H (.ref a) (.type "list") := by
  rcases h with (h | ⟨o, h⟩) | ⟨o, its, n, h1, h2, h3⟩
  · exact .base (.lst h)
  · exact .base (.frz h)
  · exact .kList h1 h2
theorem ty_tup {a : Addr} {xs : List V} (h : SqT K H a xs) : TyX K H (.ref a) (.type "tuple") := by
  rcases h with (h | ⟨o, h⟩) | ⟨o, its, n, h1, h2, h3⟩
  · exact .base (.tup h)
  · exact .fTuple h
  · exact .kTuple h1 h2
theorem r_isi {x : V} {n m : String} {b : Bool} (ty : TyX K H x (.type n)) (h : kitB n m = some b) (q : Q (.bl b) H) : rIsi K [x, .ty m] H Q := ⟨x, .ty m, _, _, b, rfl, .ty m, ty, kit_ty h, q⟩
theorem r_isiLT {x : V} {n : String} {b1 b2 b : Bool} {tp : Addr} (ht : H tp = some (.tup [.ty "list", .ty "tuple"])) (ty : TyX K H x (.type n)) (h1 : kitB n "list" = some b1) (h2 : kitB n "tuple" = some b2) (hb : (b1 || b2) = b) (q : Q (.bl b) H) : rIsiT K [x, .ref tp] H Q := by
  refine ⟨x, tp, _, _, [.type "list", .type "tuple"], b, rfl, ht, .cons (.ty _) (.cons (.ty _) .nil), ty, kitAny_cons (kit_ty h1) (fun e1 => kitAny_cons (kit_ty h2) (fun e2 => ?_) (fun e2 => ?_)) (fun e1 => ?_), q⟩
  · rw [← hb, e1, e2]; exact kitAny_nil
  · rw [← hb, e1, e2]; rfl
  · rw [← hb, e1]; rfl
theorem r_isiLT_non {tp : Addr} (ht : H tp = some (.tup [.ty "list", .ty "tuple"])) (q : Q (.bl false) H) : rIsiT K [.non, .ref tp] H Q := r_isiLT (b1 := false) (b2 := false) ht (TyX.base .non) (by decide +kernel) (by decide +kernel) rfl q
theorem r_isiLT_bl {tp : Addr} (ht : H tp = some (.tup [.ty "list", .ty "tuple"])) {b : Bool} (q : Q (.bl false) H) : rIsiT K [(.bl b), .ref tp] H Q := r_isiLT (b1 := false) (b2 := false) ht (TyX.base (.bl b)) (by decide +kernel) (by decide +kernel) rfl q
theorem r_isiLT_int {tp : Addr} (ht : H tp = some (.tup [.ty "list", .ty "tuple"])) {i : Int} (q : Q (.bl false) H) : rIsiT K [(.int i), .ref tp] H Q := r_isiLT (b1 := false) (b2 := false) ht (TyX.base (.int i)) (by decide +kernel) (by decide +kernel) rfl q
theorem r_isiLT_str {tp : Addr} (ht : H tp = some (.tup [.ty "list", .ty "tuple"])) {z : Str} (q : Q (.bl false) H) : rIsiT K [(.str z), .ref tp] H Q := r_isiLT (b1 := false) (b2 := false) ht (TyX.base (.str z)) (by decide +kernel) (by decide +kernel) rfl q
theorem r_isiLT_lst {tp : Addr} (ht : H tp = some (.tup [.ty "list", .ty "tuple"])) {p : Addr} {xs : List V} (h : SqL K H p xs) (q : Q (.bl true) H) : rIsiT K [(.ref p), .ref tp] H Q := r_isiLT (b1 := true) (b2 := false) ht (ty_lst h) (by decide +kernel) (by decide +kernel) rfl q
theorem r_isiLT_tup {tp : Addr} (ht : H tp = some (.tup [.ty "list", .ty "tuple"])) {p : Addr} {xs : List V} (h : SqT K H p xs) (q : Q (.bl true) H) : rIsiT K [(.ref p), .ref tp] H Q := r_isiLT (b1 := false) (b2 := true) ht (ty_tup h) (by decide +kernel) (by decide +kernel) rfl q
theorem r_isi_non_int (q : Q (.bl false) H) : rIsi K [.non, .ty "int"] H Q := r_isi (TyX.base .non) (by decide +kernel) q
theorem r_isi_non_str (q : Q (.bl false) H) : rIsi K [.non, .ty "str"] H Q := r_isi (TyX.base .non) (by decide +kernel) q
theorem r_isi_non_list (q : Q (.bl false) H) : rIsi K [.non, .ty "list"] H Q := r_isi (TyX.base .non) (by decide +kernel) q
theorem r_isi_non_tuple (q : Q (.bl false) H) : rIsi K [.non, .ty "tuple"] H Q := r_isi (TyX.base .non) (by decide +kernel) q
theorem r_isi_non_bool (q : Q (.bl false) H) : rIsi K [.non, .ty "bool"] H Q := r_isi (TyX.base .non) (by decide +kernel) q
theorem r_isi_bl_int {b : Bool} (q : Q (.bl true) H) : rIsi K [(.bl b), .ty "int"] H Q := r_isi (TyX.base (.bl b)) (by decide +kernel) q
theorem r_isi_bl_str {b : Bool} (q : Q (.bl false) H) : rIsi K [(.bl b), .ty "str"] H Q := r_isi (TyX.base (.bl b)) (by decide +kernel) q
theorem r_isi_bl_list {b : Bool} (q : Q (.bl false) H) : rIsi K [(.bl b), .ty "list"] H Q := r_isi (TyX.base (.bl b)) (by decide +kernel) q
theorem r_isi_bl_tuple {b : Bool} (q : Q (.bl false) H) : rIsi K [(.bl b), .ty "tuple"] H Q := r_isi (TyX.base (.bl b)) (by decide +kernel) q
theorem r_isi_bl_bool {b : Bool} (q : Q (.bl true) H) : rIsi K [(.bl b), .ty "bool"] H Q := r_isi (TyX.base (.bl b)) (by decide +kernel) q
theorem r_isi_int_int {i : Int} (q : Q (.bl true) H) : rIsi K [(.int i), .ty "int"] H Q := r_isi (TyX.base (.int i)) (by decide +kernel) q
theorem r_isi_int_str {i : Int} (q : Q (.bl false) H) : rIsi K [(.int i), .ty "str"] H Q := r_isi (TyX.base (.int i)) (by decide +kernel) q
theorem r_isi_int_list {i : Int} (q : Q (.bl false) H) : rIsi K [(.int i), .ty "list"] H Q := r_isi (TyX.base (.int i)) (by decide +kernel) q
theorem r_isi_int_tuple {i : Int} (q : Q (.bl false) H) : rIsi K [(.int i), .ty "tuple"] H Q := r_isi (TyX.base (.int i)) (by decide +kernel) q
theorem r_isi_int_bool {i : Int} (q : Q (.bl false) H) : rIsi K [(.int i), .ty "bool"] H Q := r_isi (TyX.base (.int i)) (by decide +kernel) q
theorem r_isi_str_int {z : Str} (q : Q (.bl false) H) : rIsi K [(.str z), .ty "int"] H Q := r_isi (TyX.base (.str z)) (by decide +kernel) q
theorem r_isi_str_str {z : Str} (q : Q (.bl true) H) : rIsi K [(.str z), .ty "str"] H Q := r_isi (TyX.base (.str z)) (by decide +kernel) q
theorem r_isi_str_list {z : Str} (q : Q (.bl false) H) : rIsi K [(.str z), .ty "list"] H Q := r_isi (TyX.base (.str z)) (by decide +kernel) q
theorem r_isi_str_tuple {z : Str} (q : Q (.bl false) H) : rIsi K [(.str z), .ty "tuple"] H Q := r_isi (TyX.base (.str z)) (by decide +kernel) q
theorem r_isi_str_bool {z : Str} (q : Q (.bl false) H) : rIsi K [(.str z), .ty "bool"] H Q := r_isi (TyX.base (.str z)) (by decide +kernel) q
theorem r_isi_lst_int {p : Addr} {xs : List V} (h : SqL K H p xs) (q : Q (.bl false) H) : rIsi K [(.ref p), .ty "int"] H Q := r_isi (ty_lst h) (by decide +kernel) q
theorem r_isi_lst_str {p : Addr} {xs : List V} (h : SqL K H p xs) (q : Q (.bl false) H) : rIsi K [(.ref p), .ty "str"] H Q := r_isi (ty_lst h) (by decide +kernel) q
theorem r_isi_lst_list {p : Addr} {xs : List V} (h : SqL K H p xs) (q : Q (.bl true) H) : rIsi K [(.ref p), .ty "list"] H Q := r_isi (ty_lst h) (by decide +kernel) q
theorem r_isi_lst_tuple {p : Addr} {xs : List V} (h : SqL K H p xs) (q : Q (.bl false) H) : rIsi K [(.ref p), .ty "tuple"] H Q := r_isi (ty_lst h) (by decide +kernel) q
theorem r_isi_lst_bool {p : Addr} {xs : List V} (h : SqL K H p xs) (q : Q (.bl false) H) : rIsi K [(.ref p), .ty "bool"] H Q := r_isi (ty_lst h) (by decide +kernel) q
theorem r_isi_tup_int {p : Addr} {xs : List V} (h : SqT K H p xs) (q : Q (.bl false) H) : rIsi K [(.ref p), .ty "int"] H Q := r_isi (ty_tup h) (by decide +kernel) q
theorem r_isi_tup_str {p : Addr} {xs : List V} (h : SqT K H p xs) (q : Q (.bl false) H) : rIsi K [(.ref p), .ty "str"] H Q := r_isi (ty_tup h) (by decide +kernel) q
theorem r_isi_tup_list {p : Addr} {xs : List V} (h : SqT K H p xs) (q : Q (.bl false) H) : rIsi K [(.ref p), .ty "list"] H Q := r_isi (ty_tup h) (by decide +kernel) q
theorem r_isi_tup_tuple {p : Addr} {xs : List V} (h : SqT K H p xs) (q : Q (.bl true) H) : rIsi K [(.ref p), .ty "tuple"] H Q := r_isi (ty_tup h) (by decide +kernel) q
theorem r_isi_tup_bool {p : Addr} {xs : List V} (h : SqT K H p xs) (q : Q (.bl false) H) : rIsi K [(.ref p), .ty "bool"] H Q := r_isi (ty_tup h) (by decide +kernel) q
end
/-! ### plain values as data -/
def datV : V → PyData
  | .non => .none
  | .bl b => .bool b
  | .int i => .int i
  | .str z => .str z
  | _ => .none
def Sc : V → Prop
  | .non => True
  | .bl _ => True
  | .int _ => True
  | .str z => PyData.strOk z = true
  | _ => False
theorem dp_sc {K : PySem.W.Frag} {H : Hp} {v : V} (h : Sc v) : Dp K H v (datV v) := by
  cases v with
  | non => exact .non
  | bl b => exact .bl b
  | int i => exact .int i
  | str z => exact .str z
  | _ => exact h.elim
theorem dpAll_sc {K : PySem.W.Frag} {H : Hp} : ∀ {xs : List V}, (∀ v ∈ xs, Sc v) → DpAll K H xs (xs.map datV)
  | [], _ => .nil
  | v :: r, h => .cons (dp_sc (h v (List.mem_cons_self ..))) (dpAll_sc fun u hu => h u (List.mem_cons_of_mem _ hu))
theorem canLay_sc {v : V} (h : Sc v) : (datV v).canLay0 = true ∧ (datV v).depth = 0 := by
  cases v with
  | str z => exact ⟨by simpa [datV, PyData.canLay0] using (show PyData.strOk z = true from h), by simp [datV, PyData.depth]⟩
  | non => exact ⟨by simp [datV, PyData.canLay0], by simp [datV, PyData.depth]⟩
  | bl z => exact ⟨by simp [datV, PyData.canLay0], by simp [datV, PyData.depth]⟩
  | int z => exact ⟨by simp [datV, PyData.canLay0], by simp [datV, PyData.depth]⟩
  | _ => exact h.elim
theorem canLayAll_sc : ∀ {xs : List V}, (∀ v ∈ xs, Sc v) → PyData.canLayAll0 (xs.map datV) = true ∧ PyData.depthAll (xs.map datV) = 0
  | [], _ => ⟨by simp [PyData.canLayAll0], by simp [PyData.depthAll]⟩
  | v :: r, h => by
    have h1 := canLay_sc (h v (List.mem_cons_self ..))
    have h2 := canLayAll_sc (xs := r) fun u hu => h u (List.mem_cons_of_mem _ hu)
    exact ⟨by simp [PyData.canLayAll0, h1.1, h2.1], by simp [PyData.depthAll, h1.2, h2.2]⟩
theorem shaped_list {xs : List V} (h : ∀ v ∈ xs, Sc v) : SeqAt.shaped (.list (xs.map datV)) = true := by
  have h2 := canLayAll_sc h
  simp [SeqAt.shaped, PyData.canLay0, PyData.depth, h2.1, h2.2]
theorem shaped_tuple {xs : List V} (h : ∀ v ∈ xs, Sc v) : SeqAt.shaped (.tuple (xs.map datV)) = true := by
  have h2 := canLayAll_sc h
  simp [SeqAt.shaped, PyData.canLay0, PyData.depth, h2.1, h2.2]
theorem eqv_same {d : PyData} (h : SeqAt.shaped d = true) : PyData.eqv d d = true := SeqAt.eqv_refl d (SeqAt.canLay_of_shaped h)
theorem word_ok {m : Nat} {z : Str} (h : Word m z) : PyData.strOk z = true := by
  unfold PyData.strOk
  rw [← Array.all_toList, List.all_eq_true]
  intro c hc
  have := h.2 c hc
  exact decide_eq_true (by omega)
theorem str_ok {z : Str} (h : ∀ c ∈ z.cps.toList, c < 1114112) : PyData.strOk z = true := by
  unfold PyData.strOk
  rw [← Array.all_toList, List.all_eq_true]
  intro c hc
  exact decide_eq_true (h c hc)
theorem cls_ok {z : Str} (h : ClsN z) : PyData.strOk z = true := by
  obtain ⟨c, r, e, h1, h2, _⟩ := h
  refine str_ok fun d hd => ?_
  rw [e] at hd
  rcases List.mem_cons.mp hd with rfl | hd
  · omega
  · rcases h2 d hd with h | h <;> omega
/-- a bag just made: what stood before is what is seen without it -/
theorem hid_start {b : Addr} {H : Hp} {o : HO} (h : H b = none) : hid b (upd H b o) = H := by
  rw [hid_bag]
  funext a
  unfold hid
  by_cases e : a = b
  · rw [if_pos e, e, h]
  · rw [if_neg e]
theorem iteTc {c : Bool} {A B : Prop} (hc : c = true) (h : A) : if c = true then A else B := by rw [if_pos hc]; exact h
theorem iteFc {c : Bool} {A B : Prop} (hc : c = false) (h : B) : if c = true then A else B := by rw [hc, if_neg Bool.false_ne_true]; exact h
theorem iteY {p : Prop} {dp : Decidable p} {A B : Prop} (hc : p) (h : A) : if decide p = true then A else B := by rw [if_pos (decide_eq_true hc)]; exact h
theorem iteN {p : Prop} {dp : Decidable p} {A B : Prop} (hc : ¬ p) (h : B) : if decide p = true then A else B := by rw [if_neg (by simp [hc])]; exact h
theorem iteNY {p : Prop} {dp : Decidable p} {A B : Prop} (hc : p) (h : B) : if (!decide p) = true then A else B := by rw [if_neg (by simp [hc])]; exact h
theorem iteNN {p : Prop} {dp : Decidable p} {A B : Prop} (hc : ¬ p) (h : A) : if (!decide p) = true then A else B := by rw [if_pos (by simp [hc])]; exact h
theorem r_neDF {K : PySem.W.Frag} {H : Hp} {Q : VK} {x y : V} {d : PyData} (h1 : Dp K H x d) (h2 : Dp K H y d) (s : SeqAt.shaped d = true) (q : Q (.bl false) H) : rNeA K x y H Q := .inr ⟨d, d, h1, h2, s, s, by rw [eqv_same s]; exact q⟩
theorem r_eqDT {K : PySem.W.Frag} {H : Hp} {Q : VK} {x y : V} {d : PyData} (h1 : Dp K H x d) (h2 : Dp K H y d) (s : SeqAt.shaped d = true) (q : Q (.bl true) H) : rEqA K x y H Q := .inr ⟨d, d, h1, h2, s, s, by rw [eqv_same s]; exact q⟩
/-- the built-in names that stand -/
structure Bl (mg : Str → Option Value) : Prop where
  len : mg "len" = none
  abs : mg "abs" = none
  max : mg "max" = none
  min : mg "min" = none
  isinstance : mg "isinstance" = none
  range : mg "range" = none
  int : mg "int" = none
  str : mg "str" = none
  list : mg "list" = none
  tuple : mg "tuple" = none
  bool : mg "bool" = none
  dict : mg "dict" = none
  all : mg "all" = none
  any : mg "any" = none
  enumerate : mg "enumerate" = none
  sorted : mg "sorted" = none
  repr : mg "repr" = none
def blNames : List Str := ["len", "abs", "max", "min", "isinstance", "range", "int", "str", "list", "tuple", "bool", "dict", "all", "any", "enumerate", "sorted", "repr"]
/-! ### what is new -/
/-- what H' has at places that H did not have -/
def nov (H H' : Hp) : Hp := fun a => if (H a).isSome = true then none else H' a
theorem nov_get {H H' : Hp} {a : Addr} {o : HO} (h : nov H H' a = some o) : H a = none ∧ H' a = some o := by
  unfold nov at h
  cases e : H a with
  | none => rw [e, if_neg (by simp)] at h; exact ⟨rfl, h⟩
  | some u => rw [e, if_pos (show (some u).isSome = true from rfl)] at h; cases h
theorem nov_of {H H' : Hp} {a : Addr} {o : HO} (h1 : H a = none) (h2 : H' a = some o) : nov H H' a = some o := by
  unfold nov
  rw [h1, if_neg (by simp)]
  exact h2
theorem nov_ex {H H' : Hp} : Evl.Ex (nov H H') H' := fun _ _ h => (nov_get h).2
theorem Bag.some {b : Addr} {n : Nat} {H : Hp} (h : Bag b n H) : H b ≠ none := by
  obtain ⟨l, h1, _⟩ := h
  rw [h1]
  exact fun e => by cases e
theorem Drw.novm {b : Addr} {n : Nat} {H0 H1 H2 : Hp} (r : Drw b n H1 H2) (hb : H0 b ≠ none) : Evl.Ex (nov H0 H1) (nov H0 H2) := fun a o h => by
  obtain ⟨h1, h2⟩ := nov_get h
  have ne : a ≠ b := fun e => hb (by rw [← e]; exact h1)
  exact nov_of h1 (hid_get (r.ex _ _ (hid_of h2 ne)))
theorem Drw.dom {b : Addr} {n : Nat} {H0 H1 : Hp} (r : Drw b n H0 H1) {a : Addr} (h : H1 a = none) : H0 a = none := by
  cases e : H0 a with
  | none => rfl
  | some o =>
    by_cases hb : a = b
    · exact absurd (hb ▸ h) r.bag.some
    · have := hid_get (r.ex _ _ (hid_of e hb))
      rw [h] at this
      cases this
theorem Drw.base {b : Addr} {n : Nat} {H0 H1 H2 : Hp} (r : Drw b n H0 H1) : Evl.Ex (nov H1 H2) (nov H0 H2) := fun a o h => by
  obtain ⟨h1, h2⟩ := nov_get h
  exact nov_of (r.dom h1) h2
theorem Drw.baseL {b L : Addr} {n : Nat} {H0 H1 H2 : Hp} (r : Drw b n H0 H1) (hL : H1 L ≠ none) : Evl.Ex (nov H1 H2) (hid L (nov H0 H2)) := fun a o h => by
  refine hid_of (r.base a o h) fun e => hL ?_
  rw [← e]
  exact (nov_get h).1
theorem nov_hidb {b : Addr} {H H' : Hp} (hb : H b ≠ none) : Evl.Ex (nov H H') (hid b H') := fun a o h => by
  obtain ⟨h1, h2⟩ := nov_get h
  exact hid_of h2 fun e => hb (by rw [← e]; exact h1)
theorem hid_nov_upd {L : Addr} {H H' : Hp} {o : HO} : hid L (nov H (upd H' L o)) = hid L (nov H H') := by
  funext a
  unfold hid nov
  by_cases e : a = L
  · rw [if_pos e, if_pos e]
  · rw [if_neg e, if_neg e, upd_ne e]
theorem hid_mono {L : Addr} {H H' : Hp} (e : Evl.Ex H H') : Evl.Ex (hid L H) (hid L H') := fun a o h => hid_of (e a o (hid_get h)) (hid_ne h)
/-- a comprehension over a range whose elements are draws -/
theorem lc_draw {m : Nat} {b : Addr} {n c : Nat} {H2 : Hp} {L : Addr} {te : TE} {j : Nat} {vs : List Nat} {σ : L2.St} {Qd : Hp → Prop} (hL : H2 L = none) (hb : Bag b n H2) (hm : m ≤ 1000000) (Dat : Hp → V → Prop) (mono : ∀ G G' v, Evl.Ex G G' → Dat G v → Dat G' v)
    (hw : ∀ x, wipe ((wipe σ vs).set j (some x)) vs = wipe σ vs)
    (hel : ∀ i H', i < m → Drw b (n + c * i) H2 H' → ∀ Q' : VK, (∀ v H'', Dat (nov H' H'') v → Drw b (n + c * i + c) H' H'' → Q' v H'') → te ((wipe σ vs).set j (some (.int (0 + (i : Nat))))) H' Q')
    (q : ∀ H' xs, xs.length = m → (∀ v ∈ xs, Dat (hid L (nov H2 H')) v) → H' L = some (.lst xs) → L ≠ b → Drw b (n + c * m) H2 H' → Qd H') :
    ∃ W : Nat → Nat → Hp → Prop, (∃ m, W 0 m (upd H2 L (.lst []))) ∧ ∀ i k H, W i k H →
      ((Itr 0 m).stop i H ∧ Qd H) ∨ ((Itr 0 m).go i H ∧ ∃ Nx : Hp → Prop, (∀ H', Nx H' → ∃ m', m' < k ∧ W (i + 1) m' H') ∧ ∀ x H', (Itr 0 m).yld i H x H' → gName j x (wipe σ vs) H' fun σ2 H2 => wipe σ2 vs = wipe σ vs ∧ tYes σ2 H2 fun b H3 =>
        if b = true then te σ2 H3 fun y H4 => ∃ acc, H4 L = some (.lst acc) ∧ acc.length < sizeLine ∧ Nx (upd H4 L (.lst (acc ++ [y]))) else Nx H3) := by
  have nLb : L ≠ b := by
    obtain ⟨l, q1, _⟩ := hb
    exact (ne_of_none q1 hL).symm
  refine lc_range (lo := 0) (n := m) (fun i H' => ∃ xs : List V, xs.length = i ∧ (∀ v ∈ xs, Dat (hid L (nov H2 H')) v) ∧ H' L = some (.lst xs) ∧ Drw b (n + c * i) H2 H') ?_ ?_ ?_
  · exact ⟨[], rfl, fun _ h => by (cases h), upd_same, (hb.new hL).1⟩
  · rintro i H' hi ⟨xs, hl, hI, h1, r1⟩
    refine ⟨hw _, r_yes (iteT ?_)⟩
    refine hel i H' hi r1 _ fun v H3 hv r2 => ?_
    have hL3 : H3 L = some (.lst xs) := hid_get (r2.ex _ _ (hid_of h1 nLb))
    refine ⟨xs, hL3, by rw [sizeLine_eq]; omega, xs ++ [v], by simp [hl], ?_, upd_same, ?_⟩
    · intro u hu
      rw [hid_nov_upd]
      rcases List.mem_append.mp hu with hu | hu
      · exact mono _ _ _ (hid_mono (r2.novm hb.some)) (hI u hu)
      · rw [List.mem_singleton.mp hu]
        exact mono _ _ _ (r1.baseL (by rw [h1]; exact fun e => by cases e)) hv
    · exact (Drw.put (r1.trans r2) (hid_none hL) nLb).mono (by rw [Nat.mul_succ]; omega)
  · rintro H' ⟨xs, hl, hI, h1, r1⟩
    exact q H' xs hl hI h1 nLb r1

/-! ### what a value is, by its data -/
def smallL : List Nat := (List.range 26).map (· + 97)
def capsL : List Nat := (List.range 26).map (· + 65)
def isWordS (z : Str) (m : Int) : Bool := decide ((z.length : Int) ≤ m) && z.cps.toList.all fun c => decide (c ∈ smallL)
def isWordD (m : Int) : PyData → Bool
  | .str z => isWordS z m
  | _ => false
def isIntD : PyData → Bool
  | .int _ => true
  | _ => false
def isItemD : PyData → Bool
  | .none => true
  | .int _ => true
  | .str z => isWordS z 30
  | _ => false
def isClsS (z : Str) : Bool := match z.cps.toList with
  | [] => false
  | c :: r => decide (r.length ≤ 11) && (decide (c ∈ capsL) && (c :: r).all fun d => decide (d ∈ smallL) || decide (d ∈ capsL))
def isClsD : PyData → Bool
  | .str z => isClsS z
  | _ => false
def isNonD : PyData → Bool
  | .none => true
  | _ => false
def isRaisedD : PyData → Bool
  | .tuple [.str a, b, c] => decide (a = "raises") && (isClsD b && (isNonD c || isClsD c))
  | _ => false
theorem raised_len {xs : List PyData} (h : xs.length ≠ 3) : isRaisedD (.tuple xs) = false := by
  unfold isRaisedD
  split
  · rename_i a b c e
    injection e with e
    subst e
    exact absurd rfl h
  · rfl
theorem raised_fst {a b c : PyData} (h : ∀ z, a ≠ .str z) : isRaisedD (.tuple [a, b, c]) = false := by
  unfold isRaisedD
  split
  · rename_i a' b' c' e
    injection e with e
    injection e with e1 e2
    exact absurd e1 (h a')
  · rfl
def isAnswerD : PyData → Bool
  | .list xs => xs.all isItemD
  | d => isItemD d || isRaisedD d
mutual
def fit : PyData → Bool
  | .none => true
  | .bool _ => true
  | .int _ => true
  | .str z => decide (z.length ≤ 100000) && PyData.strOk z
  | .list xs => decide (xs.length ≤ 100000) && fitAll xs
  | .tuple xs => decide (xs.length ≤ 100000) && fitAll xs
  | .dict _ => false
def fitAll : List PyData → Bool
  | [] => true
  | d :: r => fit d && fitAll r
end
theorem fit_str {z : Str} (h : fit (.str z) = true) : z.length ≤ 100000 ∧ PyData.strOk z = true := by
  rw [fit, Bool.and_eq_true, decide_eq_true_eq] at h
  exact h
theorem fit_list {xs : List PyData} (h : fit (.list xs) = true) : xs.length ≤ 100000 ∧ fitAll xs = true := by
  rw [fit, Bool.and_eq_true, decide_eq_true_eq] at h
  exact h
theorem fit_tuple {xs : List PyData} (h : fit (.tuple xs) = true) : xs.length ≤ 100000 ∧ fitAll xs = true := by
  rw [fit, Bool.and_eq_true, decide_eq_true_eq] at h
  exact h
theorem fitAll_mem : ∀ {xs : List PyData} {d : PyData}, fitAll xs = true → d ∈ xs → fit d = true
  | x :: r, d, h, m => by
    rw [fitAll, Bool.and_eq_true] at h
    rcases List.mem_cons.mp m with rfl | m
    · exact h.1
    · exact fitAll_mem h.2 m
theorem fitAll_of : ∀ {xs : List PyData}, (∀ d ∈ xs, fit d = true) → fitAll xs = true
  | [], _ => by rw [fitAll]
  | x :: r, h => by rw [fitAll, h x (List.mem_cons_self ..), fitAll_of fun d m => h d (List.mem_cons_of_mem _ m)]; rfl
mutual
theorem fit_lay : ∀ {d : PyData}, fit d = true → d.canLay0 = true
  | .none, _ => by rw [PyData.canLay0]
  | .bool _, _ => by rw [PyData.canLay0]
  | .int _, _ => by rw [PyData.canLay0]
  | .str z, h => by rw [PyData.canLay0]; exact (fit_str h).2
  | .list xs, h => by rw [PyData.canLay0]; exact fitAll_lay (fit_list h).2
  | .tuple xs, h => by rw [PyData.canLay0]; exact fitAll_lay (fit_tuple h).2
  | .dict _, h => by simp [fit] at h
theorem fitAll_lay : ∀ {xs : List PyData}, fitAll xs = true → PyData.canLayAll0 xs = true
  | [], _ => by rw [PyData.canLayAll0]
  | x :: r, h => by
    rw [fitAll, Bool.and_eq_true] at h
    rw [PyData.canLayAll0, fit_lay h.1, fitAll_lay h.2]
    rfl
end
/-- a def of one value that only reads it -/
def spB1 (K : PySem.W.Frag) (f : PyData → Bool) : Sp := fun vs H Q _ => ∃ (v : V) (d : PyData), vs = [v] ∧ Dp K H v d ∧ fit d = true ∧ ∀ H', Evl.Ex H H' → Q (.bl (f d)) H'
/-- a value that is plain data, at most so deep -/
def Dv (K : PySem.W.Frag) (H : Hp) (m : Nat) (v : V) : Prop := ∃ d, Dp K H v d ∧ fit d = true ∧ d.depth ≤ m
theorem dv_non {K : PySem.W.Frag} {H : Hp} {m : Nat} : Dv K H m .non := ⟨_, .non, by rw [fit], by simp [PyData.depth]⟩
theorem dv_bl {K : PySem.W.Frag} {H : Hp} {m : Nat} {b : Bool} : Dv K H m (.bl b) := ⟨_, .bl b, by rw [fit], by simp [PyData.depth]⟩
theorem dv_int {K : PySem.W.Frag} {H : Hp} {m : Nat} {i : Int} : Dv K H m (.int i) := ⟨_, .int i, by rw [fit], by simp [PyData.depth]⟩
theorem dv_str {K : PySem.W.Frag} {H : Hp} {m : Nat} {z : Str} (h1 : z.length ≤ 100000) (h2 : PyData.strOk z = true) : Dv K H m (.str z) := ⟨_, .str z, by rw [fit, h2, Bool.and_true]; exact decide_eq_true h1, by simp [PyData.depth]⟩
theorem Bag.ex {b : Addr} {n : Nat} {H H' : Hp} (h : Bag b n H) (e : Evl.Ex H H') : Drw b n H H' := by
  obtain ⟨l, h1, h2⟩ := h
  refine ⟨fun a o ha => hid_of (e _ _ (hid_get ha)) (hid_ne ha), l, e _ _ h1, h2⟩
mutual
theorem Dp.mono {K : PySem.W.Frag} {H H' : Hp} (e : Evl.Ex H H') : ∀ {d : PyData} {v : V}, Dp K H v d → Dp K H' v d
  | _, _, .non => .non
  | _, _, .bl b => .bl b
  | _, _, .int i => .int i
  | _, _, .str x => .str x
  | _, _, .lst s r => .lst (Evl.ex_l e s) (DpAll.mono e r)
  | _, _, .tup s r => .tup (Evl.ex_t e s) (DpAll.mono e r)
theorem DpAll.mono {K : PySem.W.Frag} {H H' : Hp} (e : Evl.Ex H H') : ∀ {ds : List PyData} {vs : List V}, DpAll K H vs ds → DpAll K H' vs ds
  | _, _, .nil => .nil
  | _, _, .cons a r => .cons (Dp.mono e a) (DpAll.mono e r)
end
theorem DpAll.length {K : PySem.W.Frag} {H : Hp} : ∀ {vs : List V} {ds : List PyData}, DpAll K H vs ds → vs.length = ds.length
  | _, _, .nil => rfl
  | _, _, .cons _ r => congrArg Nat.succ (DpAll.length r)
theorem DpAll.get {K : PySem.W.Frag} {H : Hp} : ∀ {vs : List V} {ds : List PyData} {i : Nat} {v : V}, DpAll K H vs ds → vs[i]? = some v → ∃ d, ds[i]? = some d ∧ Dp K H v d
  | _, _, i, v, .nil, e => by simp at e
  | _, _, 0, v, .cons a r, e => by
    simp at e
    subst e
    exact ⟨_, rfl, a⟩
  | _, _, i + 1, v, .cons a r, e => by
    obtain ⟨d, h1, h2⟩ := DpAll.get (i := i) (v := v) r (by simpa using e)
    exact ⟨d, by simpa using h1, h2⟩
theorem Dv.mono {K : PySem.W.Frag} {H H' : Hp} {m n : Nat} {v : V} (e : Evl.Ex H H') (h : m ≤ n) (d : Dv K H m v) : Dv K H' n v := by
  obtain ⟨d, h1, h2, h3⟩ := d
  exact ⟨d, Dp.mono e h1, h2, Nat.le_trans h3 h⟩
theorem dvAll {K : PySem.W.Frag} {H : Hp} {m : Nat} : ∀ {xs : List V}, (∀ v ∈ xs, Dv K H m v) → ∃ ds, DpAll K H xs ds ∧ fitAll ds = true ∧ PyData.depthAll ds ≤ m
  | [], _ => ⟨[], .nil, by rw [fitAll], by simp [PyData.depthAll]⟩
  | v :: r, h => by
    obtain ⟨d, h1, h2, h3⟩ := h v (List.mem_cons_self ..)
    obtain ⟨ds, k1, k2, k3⟩ := dvAll (xs := r) fun u hu => h u (List.mem_cons_of_mem _ hu)
    refine ⟨d :: ds, .cons h1 k1, by rw [fitAll, h2, k2]; rfl, ?_⟩
    rw [PyData.depthAll]
    omega
theorem dv_lst {K : PySem.W.Frag} {H : Hp} {m : Nat} {a : Addr} {xs : List V} (s : SqL K H a xs) (h : ∀ v ∈ xs, Dv K H m v) (hl : xs.length ≤ 100000) : Dv K H (m + 1) (.ref a) := by
  obtain ⟨ds, k1, k2, k3⟩ := dvAll h
  refine ⟨.list ds, .lst s k1, by rw [fit, k2, Bool.and_true, ← DpAll.length k1]; exact decide_eq_true hl, ?_⟩
  rw [PyData.depth]
  omega
theorem dv_tup {K : PySem.W.Frag} {H : Hp} {m : Nat} {a : Addr} {xs : List V} (s : SqT K H a xs) (h : ∀ v ∈ xs, Dv K H m v) (hl : xs.length ≤ 100000) : Dv K H (m + 1) (.ref a) := by
  obtain ⟨ds, k1, k2, k3⟩ := dvAll h
  refine ⟨.tuple ds, .tup s k1, by rw [fit, k2, Bool.and_true, ← DpAll.length k1]; exact decide_eq_true hl, ?_⟩
  rw [PyData.depth]
  omega
theorem SqL.len {K : PySem.W.Frag} {H : Hp} {a : Addr} {xs : List V} {P : Program} {w : World} {h : Heap} (o : HOk P w H h) (s : SqL K H a xs) : xs.length ≤ sizeLine := by
  rcases s with (s | ⟨b, s⟩) | ⟨o, its, n, _, _, _, _, s, r⟩
  · exact (o a _ s).1
  · exact (o a _ s).2.1
  · rw [r.length, Array.length_toList]
    exact s

/-! ### the head's facts -/
theorem at_of {fa : List He.Fa} {fn : List He.DefD} {K : PySem.W.Frag} {mg : Str → Option Value} {h : Heap} {x : Str} {st : Stmt} (X : K.In h) (G : h.Ns mainGlobals mg) (c : He.SaysD fa fn K) (i j : Nat)
    (h1 : fn[i]? = some ⟨(x, none), x, x, defArgs st, defBody st, defScope st, [], []⟩ := by rfl) (h2 : fa[j]? = some (.glo x) := by rfl) : At K mg x st := by
  obtain ⟨fd, F⟩ := c.def_ i h1
  exact ⟨_, fd, F, He.glo_ok X G (c.fact j h2)⟩
theorem atD_of {fa : List He.Fa} {fn : List He.DefD} {K : PySem.W.Frag} {mg : Str → Option Value} {h : Heap} {x : Str} {st : Stmt} {dfl : List He.Dv} {kwd : List (Str × He.Dv)} (X : K.In h) (G : h.Ns mainGlobals mg) (c : He.SaysD fa fn K) (i j : Nat)
    (h1 : fn[i]? = some ⟨(x, none), x, x, defArgs st, defBody st, defScope st, dfl, kwd⟩ := by rfl) (h2 : fa[j]? = some (.glo x) := by rfl) : AtD K mg x st (dfl.map (He.Dv.v K)) (kwd.map fun q => (q.1, q.2.v K)) := by
  obtain ⟨fd, F⟩ := c.def_ i h1
  exact ⟨_, fd, F, He.glo_ok X G (c.fact j h2)⟩
theorem gs_of {fa : List He.Fa} {fn : List He.DefD} {K : PySem.W.Frag} {mg : Str → Option Value} {h : Heap} {x z : Str} (X : K.In h) (G : h.Ns mainGlobals mg) (c : He.SaysD fa fn K) (j : Nat) (h2 : fa[j]? = some (.str x z) := by rfl) : ∃ u, mg x = some u ∧ RelV (.str z) u := by
  obtain ⟨t, e⟩ := He.str_ok X G (c.fact j h2)
  exact ⟨_, e, t, rfl⟩
def blFa : List He.Fa := [.free "len", .free "abs", .free "max", .free "min", .free "isinstance", .free "range", .free "int", .free "str", .free "list", .free "tuple", .free "bool", .free "dict", .free "all", .free "any", .free "enumerate", .free "sorted", .free "repr"]
theorem bl_of {fa : List He.Fa} {fn : List He.DefD} {K : PySem.W.Frag} {mg : Str → Option Value} {h : Heap} (X : K.In h) (G : h.Ns mainGlobals mg) (c : He.SaysD (blFa ++ fa) fn K) : Bl mg where
  len := He.free_ok X G (c.fact 0 (f := .free "len") rfl)
  abs := He.free_ok X G (c.fact 1 (f := .free "abs") rfl)
  max := He.free_ok X G (c.fact 2 (f := .free "max") rfl)
  min := He.free_ok X G (c.fact 3 (f := .free "min") rfl)
  isinstance := He.free_ok X G (c.fact 4 (f := .free "isinstance") rfl)
  range := He.free_ok X G (c.fact 5 (f := .free "range") rfl)
  int := He.free_ok X G (c.fact 6 (f := .free "int") rfl)
  str := He.free_ok X G (c.fact 7 (f := .free "str") rfl)
  list := He.free_ok X G (c.fact 8 (f := .free "list") rfl)
  tuple := He.free_ok X G (c.fact 9 (f := .free "tuple") rfl)
  bool := He.free_ok X G (c.fact 10 (f := .free "bool") rfl)
  dict := He.free_ok X G (c.fact 11 (f := .free "dict") rfl)
  all := He.free_ok X G (c.fact 12 (f := .free "all") rfl)
  any := He.free_ok X G (c.fact 13 (f := .free "any") rfl)
  enumerate := He.free_ok X G (c.fact 14 (f := .free "enumerate") rfl)
  sorted := He.free_ok X G (c.fact 15 (f := .free "sorted") rfl)
  repr := He.free_ok X G (c.fact 16 (f := .free "repr") rfl)
end WP

set_option Elab.async false
set_option linter.all false
set_option maxRecDepth 100000
set_option maxHeartbeats 4000000
namespace WP
open PySem PySem.Spec PyProof.Rows L2

/-! ### a hook with one more Bool -/
def obsE (n : Nat) (fa : List He.Fa) (fn : List He.DefD) (ex : PySem.W.Frag → Bool) (g : Addr → Option Obj) : He.AlD × Bool := (He.obsD fa fn (He.frG g (He.asD g n)), ex (He.frG g (He.asD g n)))
def hookE (n : Nat) (fa : List He.Fa) (fn : List He.DefD) (ex : PySem.W.Frag → Bool) : PySem.W.Hook where
  α := He.AlD × Bool
  obs := fun s => obsE n fa fn ex s.heap.get?
  val := fun _ => (He.valD fn, true)
  says := fun _ h => ∃ K : PySem.W.Frag, K.In h ∧ He.SaysD fa fn K ∧ ex K = true
  of := fun _ _ e => ⟨_, He.frG_in, congrArg (fun z : He.AlD × Bool => z.1) e, congrArg (fun z : He.AlD × Bool => z.2) e⟩
  keeps := fun _ _ _ ⟨K, hK, c⟩ k => ⟨K, PySem.W.Frag.In.keeps hK k, c⟩
theorem obsE_eq {n : Nat} {fa : List He.Fa} {fn : List He.DefD} {ex : PySem.W.Frag → Bool} {g : Addr → Option Obj} {s : Shared} (h : ∀ a, g a = s.heap.get? a) : obsE n fa fn ex g = (hookE n fa fn ex).obs s := by
  have e : g = s.heap.get? := funext h
  subst e
  rfl

/-! ### several targets -/
theorem pg_tupA {X : Cx} (K : PySem.W.Frag) {es : List Expr} {k : Nat} {pos : Pos} {n : Nat} {t : TGs} (h : PG X (.Tuple es k pos) (gTup X.K n t)) (e : X.K = K := by rfl) : PG X (.Tuple es k pos) (gTup K n t) := by subst e; exact h
section
variable {K : PySem.W.Frag} {σ : L2.St} {H : Hp} {R : L2.St → Hp → Prop} {v : V} {n : Nat} {t : TG} {ts : TGs}
theorem r_gTup {a : Addr} {xs : List V} (h : SqT K H a xs) (hl : xs.length = n) (q : ts xs σ H R) : gTup K n ts (.ref a) σ H R := ⟨a, xs, rfl, h, hl, q⟩
theorem r_gCons {r : List V} (q : t v σ H fun σ' H' => ts r σ' H' R) : gCons t ts (v :: r) σ H R := ⟨v, r, rfl, q⟩
theorem r_gNil (q : R σ H) : gNil [] σ H R := ⟨rfl, q⟩
theorem r_asgT {te : TE} {g : TG} {D : Ends} (q : te σ H fun x H1 => g x σ H1 D.nx) : tAsg te g D σ H := q
end

/-! ### texts by their signs -/
abbrev tl (z : Str) : List Nat := z.cps.toList
theorem tl_length (z : Str) : (tl z).length = z.length := by simp [Str.length]
theorem tl_ext {x y : Str} (h : tl x = tl y) : x = y := TL.ext_tl h
theorem tl_inj {x y : Str} : x = y ↔ tl x = tl y := ⟨fun h => by rw [h], tl_ext⟩
theorem tl_app (x y : Str) : tl (x ++ y) = tl x ++ tl y := TL.tl_append x y
theorem str_eta (z : Str) : (⟨(tl z).toArray⟩ : Str) = z := tl_ext rfl
theorem sub_one {z : Str} {c i : Nat} (h : i < z.length) : Builtin.Str.subAt z ⟨#[c]⟩ i = decide ((tl z)[i]? = some c) := by
  have hi : i < z.cps.size := h
  have e2 : z.cps.extract i (i + 1) = #[z.cps[i]] := by
    apply Array.ext
    · simp; omega
    · intro j h1 h2
      simp at h1 h2
      have : j = 0 := by omega
      subst this
      simp
  show (z.cps.extract i (i + 1) == #[c]) = _
  rw [e2]
  have e3 : (tl z)[i]? = some z.cps[i] := by simp [tl, hi]
  rw [e3]
  by_cases hc : z.cps[i] = c
  · rw [hc]; simp
  · have : ¬ (#[z.cps[i]] = #[c]) := fun e => hc (by simpa using e)
    rw [beq_eq_false_iff_ne.mpr this, decide_eq_false (by simpa using hc)]
theorem starts_one (z : Str) (c : Nat) : Txt.startswith z ⟨#[c]⟩ = decide ((tl z).head? = some c) := by
  show (decide (0 + 1 ≤ z.length) && Builtin.Str.subAt z ⟨#[c]⟩ 0) = _
  by_cases h : 0 < z.length
  · rw [sub_one h, decide_eq_true (by omega : 0 + 1 ≤ z.length), Bool.true_and, List.head?_eq_getElem?]
  · rw [decide_eq_false (by omega : ¬ 0 + 1 ≤ z.length), Bool.false_and]
    have : tl z = [] := List.eq_nil_of_length_eq_zero (by rw [tl_length]; omega)
    rw [this]; rfl
theorem ends_one (z : Str) (c : Nat) : Txt.endswith z ⟨#[c]⟩ = decide ((tl z).getLast? = some c) := by
  show (decide (0 + 1 ≤ z.length) && Builtin.Str.subAt z ⟨#[c]⟩ (z.length - 1)) = _
  by_cases h : 0 < z.length
  · rw [sub_one (by omega), decide_eq_true (by omega : 0 + 1 ≤ z.length), Bool.true_and, List.getLast?_eq_getElem?, tl_length]
  · rw [decide_eq_false (by omega : ¬ 0 + 1 ≤ z.length), Bool.false_and]
    have : tl z = [] := List.eq_nil_of_length_eq_zero (by rw [tl_length]; omega)
    rw [this]; rfl
theorem cut_tl (z : Str) (lo hi : Option Int) : tl (cutS z lo hi) = ((tl z).drop (HT.sIx z.length 0 lo)).take (HT.sIx z.length z.length hi - HT.sIx z.length 0 lo) := rfl
/-- z[1:] -/
theorem cut_tail (z : Str) : tl (cutS z (some 1) none) = (tl z).tail := by
  rw [cut_tl]
  have e1 : HT.sIx z.length 0 (some 1) = min 1 z.length := HT.sIx_nat z.length 0 1
  rw [e1, HT.sIx_none]
  cases h : tl z with
  | nil => simp
  | cons c r =>
    have : z.length = r.length + 1 := by rw [← tl_length, h, List.length_cons]
    rw [this]
    have : min 1 (r.length + 1) = 1 := by omega
    rw [this]
    simp
/-- z[:-1] -/
theorem cut_init (z : Str) : tl (cutS z none (some (-1))) = (tl z).dropLast := by
  rw [cut_tl, HT.sIx_none]
  have e1 : HT.sIx z.length z.length (some (-1)) = z.length - 1 := by
    show (if (-1 : Int) < 0 then ((-1 : Int) + (z.length : Int)).toNat else min (-1 : Int).toNat z.length) = _
    rw [if_pos (by omega)]
    omega
  rw [e1, List.drop_zero, List.dropLast_eq_take, tl_length]
  simp
/-- z[1:-1] -/
theorem cut_mid (z : Str) : tl (cutS z (some 1) (some (-1))) = (tl z).tail.dropLast := by
  rw [cut_tl]
  have e1 : HT.sIx z.length 0 (some 1) = min 1 z.length := HT.sIx_nat z.length 0 1
  have e2 : HT.sIx z.length z.length (some (-1)) = z.length - 1 := by
    show (if (-1 : Int) < 0 then ((-1 : Int) + (z.length : Int)).toNat else min (-1 : Int).toNat z.length) = _
    rw [if_pos (by omega)]
    omega
  rw [e1, e2]
  cases h : tl z with
  | nil => simp
  | cons c r =>
    have hl : z.length = r.length + 1 := by rw [← tl_length, h, List.length_cons]
    rw [hl]
    have : min 1 (r.length + 1) = 1 := by omega
    rw [this]
    show List.take (r.length + 1 - 1 - 1) r = r.dropLast
    rw [List.dropLast_eq_take]
    congr 1

/-! ### constants, names, calls by their signs -/
def digitsL : List Nat := (List.range 10).map (· + 48)
def isWordL (t : List Nat) (m : Nat) : Bool := decide (t.length ≤ m) && t.all fun c => decide (c ∈ smallL)
def numBody (t : List Nat) : List Nat := if t.head? = some 45 then t.tail else t
def isNumL (t : List Nat) : Bool := (decide (1 ≤ (numBody t).length) && decide ((numBody t).length ≤ 30)) && ((numBody t).all (fun c => decide (c ∈ digitsL)) && (!decide ((numBody t).head? = some 48) || decide (t = [48])))
def noneL : List Nat := [110, 111, 110, 101]
def isConstL (t : List Nat) : Bool := if 2 ≤ t.length ∧ t.head? = some 34 ∧ t.getLast? = some 34 then isWordL t.tail.dropLast 8 else (decide (t = noneL) || isNumL t)
def kwS : List Str := (["and", "assert", "assume", "break", "call", "clear", "continue", "else", "end", "error", "except", "fail", "for", "from", "if", "in", "is", "len", "let", "list", "none", "not", "number", "on", "or", "pass", "raises", "return", "set", "skip", "test", "try", "under", "word"] : List String).map Str.ofString
def isNameL (t : List Nat) : Bool := isWordL t 12 && (decide (t ≠ []) && !(kwS.any fun k => decide (tl k = t)))
def wordsL (r : List Nat) : List (List Nat) := if r = [] then [] else TL.spl [44, 32] 0 [] r
def isCallL (t : List Nat) : Bool := decide (t.getLast? = some 41) && (match TL.par [40] [] t.dropLast with
  | none => false
  | some (n, r) => isNameL n && (decide ((wordsL r).length ≤ 3) && (wordsL r).all isConstL))
theorem isWordS_L (z : Str) (m : Nat) : isWordS z (m : Int) = isWordL (tl z) m := by
  unfold isWordS isWordL
  congr 1
  exact decide_eq_decide.mpr (by rw [tl_length]; omega)
theorem spl_mem {S : List Nat} : ∀ (l : List Nat) (k : Nat) (acc : List Nat) (p : List Nat), p ∈ TL.spl S k acc l → p.length ≤ acc.length + l.length ∧ ∀ c ∈ p, c ∈ acc ∨ c ∈ l
  | [], k, acc, p, h => by
    rw [TL.spl_nil, List.mem_singleton] at h
    subst h
    exact ⟨by simp, fun c hc => .inl hc⟩
  | c :: r, 0, acc, p, h => by
    by_cases hp : TL.pre S (c :: r) = true
    · rw [TL.spl_hit hp] at h
      rcases List.mem_cons.mp h with rfl | h
      · exact ⟨by simp, fun c hc => .inl hc⟩
      · obtain ⟨h1, h2⟩ := spl_mem r _ [] p h
        exact ⟨by simp at h1 ⊢; omega, fun d hd => by rcases h2 d hd with h | h; cases h; exact .inr (List.mem_cons_of_mem _ h)⟩
    · rw [TL.spl_miss (by simpa using hp)] at h
      obtain ⟨h1, h2⟩ := spl_mem r 0 (acc ++ [c]) p h
      refine ⟨by simp at h1 ⊢; omega, fun d hd => ?_⟩
      rcases h2 d hd with h | h
      · rcases List.mem_append.mp h with h | h
        · exact .inl h
        · rw [List.mem_singleton.mp h]; exact .inr (List.mem_cons_self ..)
      · exact .inr (List.mem_cons_of_mem _ h)
  | c :: r, k + 1, acc, p, h => by
    obtain ⟨h1, h2⟩ := spl_mem r k acc p (show p ∈ TL.spl S k acc r from h)
    exact ⟨by simp; omega, fun d hd => by rcases h2 d hd with h | h; exact .inl h; exact .inr (List.mem_cons_of_mem _ h)⟩
theorem par_mem {S : List Nat} : ∀ (l acc a b : List Nat), TL.par S acc l = some (a, b) → (∀ c ∈ a, c ∈ acc ∨ c ∈ l) ∧ (∀ c ∈ b, c ∈ l) ∧ a.length ≤ acc.length + l.length ∧ b.length ≤ l.length
  | [], acc, a, b, h => by cases h
  | c :: r, acc, a, b, h => by
    have h' : (if TL.pre S (c :: r) = true then some (acc, (c :: r).drop S.length) else TL.par S (acc ++ [c]) r) = some (a, b) := h
    by_cases hp : TL.pre S (c :: r) = true
    · rw [if_pos hp] at h'
      injection h' with h'
      injection h' with e1 e2
      subst e1 e2
      exact ⟨fun c hc => .inl hc, fun d hd => List.mem_of_mem_drop hd, by omega, by simp⟩
    · rw [if_neg hp] at h'
      obtain ⟨h1, h2, h3, h4⟩ := par_mem r (acc ++ [c]) a b h'
      refine ⟨fun d hd => ?_, fun d hd => List.mem_cons_of_mem _ (h2 d hd), by simp at h3 ⊢; omega, by simp; omega⟩
      rcases h1 d hd with h | h
      · rcases List.mem_append.mp h with h | h
        · exact .inl h
        · rw [List.mem_singleton.mp h]; exact .inr (List.mem_cons_self ..)
      · exact .inr (List.mem_cons_of_mem _ h)
theorem strOk_iff {z : Str} : PyData.strOk z = true ↔ ∀ c ∈ tl z, c < 1114112 := by
  unfold PyData.strOk
  rw [← Array.all_toList, List.all_eq_true]
  exact ⟨fun h c hc => of_decide_eq_true (h c hc), fun h c hc => decide_eq_true (h c hc)⟩
theorem fit_of {z : Str} (h1 : (tl z).length ≤ 100000) (h2 : ∀ c ∈ tl z, c < 1114112) : fit (.str z) = true := by
  rw [fit, strOk_iff.mpr h2, Bool.and_true]
  exact decide_eq_true (by rw [← tl_length]; exact h1)
def isNameD : PyData → Bool
  | .str z => isNameL (tl z)
  | _ => false
def isCallD : PyData → Bool
  | .str z => isCallL (tl z)
  | _ => false
/-- a value's truth, with K written out (for tests inside a comprehension's block) -/
def tTruA (K : PySem.W.Frag) (ta : TE) : TT := fun σ H Q => ta σ H fun x H' => ∃ k, TruV K x H' k ∧ Q k H'
theorem pt_truthA {X : Cx} {a : Expr} {ta : TE} (K : PySem.W.Frag) (ha : PE X a ta) (he : ∀ whole, isTrue a X.env whole = (do let v ← whole; standAt a.pos; holding [v] (truthy v))) (h : X.K = K := by rfl) : PT X a (tTruA K ta) := by
  subst h
  exact pt_truth ha he
theorem r_tru {K : PySem.W.Frag} {ta : TE} {σ : L2.St} {H : Hp} {Q : Bool → Hp → Prop} (h : ta σ H fun x H' => ∃ k, TruV K x H' k ∧ Q k H') : tTruA K ta σ H Q := h
end WP

set_option Elab.async false
set_option linter.all false
set_option maxRecDepth 100000
set_option maxHeartbeats 4000000
/-! calls as texts: plain mathematics -/
namespace WP
open PySem PySem.Spec PyProof.Rows L2

/-! ### numbers -/
theorem int_text (i : Int) : tl (Str.ofString (toString i)) = if i < 0 then 45 :: TL.numL i.natAbs else TL.numL i.natAbs := by
  by_cases h : i < 0
  · rw [if_pos h]
    obtain ⟨n, rfl⟩ : ∃ n : Nat, i = Int.negSucc n := by
      cases i with
      | ofNat n => exact absurd h (by simp)
      | negSucc n => exact ⟨n, rfl⟩
    have e1 : toString (Int.negSucc n) = "-" ++ toString ((n + 1 : Nat) : Int) := rfl
    show (Str.ofString (toString (Int.negSucc n))).cps.toList = 45 :: TL.numL (n + 1)
    rw [e1, signs_ofString, String.toList_append, List.map_append, ← signs_ofString, ← signs_ofString, show (Str.ofString (toString ((n + 1 : Nat) : Int))).cps.toList = TL.numL (n + 1) from TL.tl_num (n + 1)]
    rfl
  · rw [if_neg h]
    obtain ⟨n, rfl⟩ := Int.eq_ofNat_of_zero_le (by omega : 0 ≤ i)
    exact TL.tl_num n
theorem numL_head {n : Nat} (h : 0 < n) : (TL.numL n).head? ≠ some 48 := by
  induction n using Nat.strongRecOn with
  | _ n ih =>
    by_cases h10 : n < 10
    · rw [TL.numL_lt h10]
      intro e
      have : 48 + n = 48 := by simpa using e
      omega
    · have ih2 := ih (n / 10) (by omega) (by omega)
      rw [TL.numL_step (by omega)]
      cases e : TL.numL (n / 10) with
      | nil => exact absurd e (TL.numL_ne _)
      | cons a r =>
        rw [e] at ih2
        exact ih2
theorem dig_mem {c : Nat} : c ∈ digitsL ↔ 48 ≤ c ∧ c ≤ 57 := by
  unfold digitsL
  rw [List.mem_map]
  constructor
  · rintro ⟨x, hx, rfl⟩
    have := List.mem_range.mp hx
    omega
  · rintro ⟨h1, h2⟩
    exact ⟨c - 48, List.mem_range.mpr (by omega), by omega⟩
theorem small_mem {c : Nat} : c ∈ smallL ↔ 97 ≤ c ∧ c ≤ 122 := by
  unfold smallL
  rw [List.mem_map]
  constructor
  · rintro ⟨x, hx, rfl⟩
    have := List.mem_range.mp hx
    omega
  · rintro ⟨h1, h2⟩
    exact ⟨c - 97, List.mem_range.mpr (by omega), by omega⟩
theorem num_all (n : Nat) : (TL.numL n).all (fun c => decide (c ∈ digitsL)) = true := by
  rw [List.all_eq_true]
  intro c hc
  exact decide_eq_true (dig_mem.mpr (TL.numL_digits n c hc))
theorem isNum_int {i : Int} (h : i.natAbs < 10 ^ 30) : isNumL (tl (Str.ofString (toString i))) = true := by
  have hne := TL.numL_ne i.natAbs
  have hlen := TL.numL_len (k := 30) (by decide) h
  have hpos : 1 ≤ (TL.numL i.natAbs).length := List.length_pos_iff.mpr hne
  rw [int_text]
  by_cases hi : i < 0
  · rw [if_pos hi]
    have e : numBody (45 :: TL.numL i.natAbs) = TL.numL i.natAbs := rfl
    rw [isNumL, e, num_all, decide_eq_true hpos, decide_eq_true hlen, decide_eq_false (numL_head (by omega))]
    rfl
  · rw [if_neg hi]
    have hh : (TL.numL i.natAbs).head? ≠ some 45 := by
      intro e
      have : 45 ∈ TL.numL i.natAbs := List.mem_of_mem_head? (by rw [e]; rfl)
      have := TL.numL_digits _ _ this
      omega
    have e : numBody (TL.numL i.natAbs) = TL.numL i.natAbs := if_neg hh
    rw [isNumL, e, num_all, decide_eq_true hpos, decide_eq_true hlen]
    by_cases h0 : i.natAbs = 0
    · rw [h0, TL.numL_lt (by decide)]; rfl
    · rw [decide_eq_false (numL_head (by omega))]; rfl

/-! ### constants -/
def Cst : V → Prop
  | .non => True
  | .int i => i.natAbs < 10 ^ 30
  | .str z => Word 8 z
  | _ => False
def cstS : V → Str
  | .non => "none"
  | .int i => Str.ofString (toString i)
  | .str z => (⟨#[34]⟩ : Str) ++ z ++ (⟨#[34]⟩ : Str)
  | _ => ""
def cstL (v : V) : List Nat := tl (cstS v)
theorem word_L {m : Nat} {z : Str} (h : Word m z) : isWordL (tl z) m = true := by
  unfold isWordL
  rw [decide_eq_true (show (tl z).length ≤ m by rw [tl_length]; exact h.1), Bool.true_and, List.all_eq_true]
  exact fun c hc => decide_eq_true (small_mem.mpr (h.2 c hc))
theorem cst_str (z : Str) : cstL (.str z) = 34 :: (tl z ++ [34]) := by
  show tl ((⟨#[34]⟩ : Str) ++ z ++ (⟨#[34]⟩ : Str)) = _
  rw [tl_app, tl_app]
  rfl
theorem cst_none : cstL .non = noneL := by decide +kernel
/-- the signs of constants -/
def good (c : Nat) : Prop := (97 ≤ c ∧ c ≤ 122) ∨ (48 ≤ c ∧ c ≤ 57) ∨ c = 45 ∨ c = 34
theorem const_good {t : List Nat} (h : isConstL t = true) : ∀ c ∈ t, good c := by
  intro c hc
  unfold isConstL at h
  split at h
  · rename_i hq
    obtain ⟨h2, h3, h4⟩ := hq
    match t, h2, h3, h4, h, hc with
    | a :: r, h2, h3, h4, h, hc =>
      have ha : a = 34 := by simpa using h3
      rcases List.mem_cons.mp hc with rfl | hc
      · exact .inr (.inr (.inr ha))
      · have hr : r ≠ [] := by rintro rfl; simp at h2
        have hl : r.getLast? = some 34 := by rw [List.getLast?_cons_of_ne_nil hr] at h4; exact h4
        have hl2 : r.getLast hr = 34 := by
          rw [List.getLast?_eq_some_getLast hr] at hl
          exact Option.some.inj hl
        rw [← List.dropLast_concat_getLast hr, hl2] at hc
        rcases List.mem_append.mp hc with hc | hc
        · unfold isWordL at h
          rw [Bool.and_eq_true, List.all_eq_true] at h
          exact .inl (small_mem.mp (of_decide_eq_true (h.2 c hc)))
        · exact .inr (.inr (.inr (List.mem_singleton.mp hc)))
  · rw [Bool.or_eq_true] at h
    rcases h with h | h
    · have : t = noneL := of_decide_eq_true h
      rw [this] at hc
      simp [noneL] at hc
      unfold good
      omega
    · unfold isNumL at h
      rw [Bool.and_eq_true, Bool.and_eq_true, Bool.and_eq_true] at h
      have h2 := h.2.1
      rw [List.all_eq_true] at h2
      unfold numBody at h2
      split at h2
      · rename_i h45
        match t, h45, h2, hc with
        | a :: r, h45, h2, hc =>
          have ha : a = 45 := by simpa using h45
          rcases List.mem_cons.mp hc with rfl | hc
          · exact .inr (.inr (.inl ha))
          · exact .inr (.inl (dig_mem.mp (of_decide_eq_true (h2 c hc))))
      · exact .inr (.inl (dig_mem.mp (of_decide_eq_true (h2 c hc))))
theorem const_bad {t : List Nat} {c : Nat} (hc : c ∈ t) (h : ¬ good c) : isConstL t = false := by
  cases e : isConstL t with
  | false => rfl
  | true => exact absurd (const_good e c hc) h
theorem const_nil : isConstL [] = false := by decide
theorem cst_const {v : V} (h : Cst v) : isConstL (cstL v) = true := by
  cases v with
  | non => rw [cst_none]; decide
  | int i =>
    have h : i.natAbs < 10 ^ 30 := h
    have hn := isNum_int h
    have e : cstL (.int i) = tl (Str.ofString (toString i)) := rfl
    rw [e]
    unfold isConstL
    rw [if_neg, hn, Bool.or_true]
    rintro ⟨_, h3, _⟩
    rw [int_text] at h3
    split at h3
    · have : 45 = 34 := Option.some.inj h3
      omega
    · have : 34 ∈ TL.numL i.natAbs := List.mem_of_mem_head? (by rw [h3]; rfl)
      have := TL.numL_digits _ _ this
      omega
  | str z =>
    have h : Word 8 z := h
    rw [cst_str]
    unfold isConstL
    rw [if_pos ⟨by simp, rfl, by rw [show (34 :: (tl z ++ [34]) : List Nat) = (34 :: tl z) ++ [34] from rfl]; exact List.getLast?_concat ..⟩]
    show isWordL (tl z ++ [34]).dropLast 8 = true
    rw [List.dropLast_concat]
    exact word_L h
  | _ => exact h.elim
theorem const_ne {t : List Nat} (h : isConstL t = true) : t ≠ [] := by
  rintro rfl
  rw [const_nil] at h
  cases h
theorem cst_len {v : V} (h : Cst v) : (cstL v).length ≤ 40 := by
  cases v with
  | non => rw [cst_none]; decide
  | int i =>
    have h : i.natAbs < 10 ^ 30 := h
    have hlen := TL.numL_len (k := 30) (by decide) h
    show (tl (Str.ofString (toString i))).length ≤ 40
    rw [int_text]
    split
    · rw [List.length_cons]; omega
    · omega
  | str z =>
    have h : Word 8 z := h
    have := h.1
    rw [cst_str, List.length_cons, List.length_append, tl_length]
    show z.length + 1 + 1 ≤ 40
    omega
  | _ => exact h.elim

/-! ### cutting at the commas -/
abbrev sep : List Nat := [44, 32]
/-- p, then c, which does not begin a comma and a blank: the first word holds c -/
theorem spl_first {p q : List Nat} {c : Nat} (hp : 44 ∉ p) (hc : TL.pre sep (c :: q) = false) : ∀ acc : List Nat, ∃ w ∈ TL.spl sep 0 acc (p ++ c :: q), c ∈ w := by
  induction p with
  | nil =>
    intro acc
    show ∃ w ∈ TL.spl sep 0 acc (c :: q), c ∈ w
    rw [TL.spl_miss hc]
    have key : ∀ (l acc : List Nat), c ∈ acc → ∃ w ∈ TL.spl sep 0 acc l, c ∈ w := by
      intro l
      induction l with
      | nil => intro acc h; exact ⟨acc, by rw [TL.spl_nil]; exact List.mem_singleton.mpr rfl, h⟩
      | cons d r ih =>
        intro acc h
        by_cases hd : TL.pre sep (d :: r) = true
        · rw [TL.spl_hit hd]
          exact ⟨acc, List.mem_cons_self .., h⟩
        · rw [TL.spl_miss (by simpa using hd)]
          exact ih _ (List.mem_append_left _ h)
    exact key q _ (List.mem_append_right _ (List.mem_singleton.mpr rfl))
  | cons d r ih =>
    intro acc
    show ∃ w ∈ TL.spl sep 0 acc (d :: (r ++ c :: q)), c ∈ w
    have hd : TL.pre sep (d :: (r ++ c :: q)) = false := TL.pre_of_head _ _ fun e => hp (by rw [← e]; exact List.mem_cons_self ..)
    rw [TL.spl_miss hd]
    exact ih (fun h => hp (List.mem_cons_of_mem _ h)) _
/-- the last word is empty or ends as the text does -/
theorem spl_end (q : List Nat) (c : Nat) : ∃ w ∈ TL.spl sep 0 [] (q ++ [c]), w = [] ∨ c ∈ w := by
  have key : ∀ (q acc : List Nat), (∃ w ∈ TL.spl sep 0 acc (q ++ [c]), w = [] ∨ c ∈ w) ∧ (∃ w ∈ TL.spl sep 1 [] (q ++ [c]), w = [] ∨ c ∈ w) := by
    intro q
    induction q with
    | nil =>
      intro acc
      constructor
      · show ∃ w ∈ TL.spl sep 0 acc [c], w = [] ∨ c ∈ w
        rw [TL.spl_miss (by unfold TL.pre; simp), TL.spl_nil]
        exact ⟨_, List.mem_singleton.mpr rfl, .inr (List.mem_append_right _ (List.mem_singleton.mpr rfl))⟩
      · show ∃ w ∈ TL.spl sep 0 [] [], w = [] ∨ c ∈ w
        rw [TL.spl_nil]
        exact ⟨_, List.mem_singleton.mpr rfl, .inl rfl⟩
    | cons d r ih =>
      intro acc
      constructor
      · show ∃ w ∈ TL.spl sep 0 acc (d :: (r ++ [c])), w = [] ∨ c ∈ w
        by_cases hd : TL.pre sep (d :: (r ++ [c])) = true
        · rw [TL.spl_hit hd]
          obtain ⟨w, h1, h2⟩ := (ih []).2
          exact ⟨w, List.mem_cons_of_mem _ h1, h2⟩
        · rw [TL.spl_miss (by simpa using hd)]
          exact (ih _).1
      · exact (ih []).1
  exact (key q []).1
theorem spl_sep (p q : List Nat) (h : 44 ∉ p) : TL.spl sep 0 [] (p ++ 44 :: 32 :: q) = p :: TL.spl sep 0 [] q := TL.spl_part1 (S := [32]) (acc := []) h

/-! ### calls -/
theorem words_ne {r : List Nat} (h : r ≠ []) : wordsL r = TL.spl sep 0 [] r := if_neg h
theorem call_at {name r : List Nat} (h : 40 ∉ name) : isCallL (name ++ 40 :: (r ++ [41])) = (isNameL name && (decide ((wordsL r).length ≤ 3) && (wordsL r).all isConstL)) := by
  have e1 : (name ++ 40 :: (r ++ [41])).getLast? = some 41 := by
    rw [show name ++ 40 :: (r ++ [41]) = (name ++ 40 :: r) ++ [41] by simp]
    exact List.getLast?_concat ..
  have e2 : (name ++ 40 :: (r ++ [41])).dropLast = name ++ ([40] ++ r) := by
    rw [show name ++ 40 :: (r ++ [41]) = (name ++ 40 :: r) ++ [41] by simp, List.dropLast_concat]
    rfl
  have e3 : TL.par [40] [] (name ++ ([40] ++ r)) = some (name, r) := TL.par_part1 (S := []) (acc := []) h
  unfold isCallL
  rw [e1, e2, e3]
  rfl
theorem call_bad {name r w : List Nat} (h : 40 ∉ name) (hr : r ≠ []) (hw : w ∈ TL.spl sep 0 [] r) (hb : isConstL w = false) : isCallL (name ++ 40 :: (r ++ [41])) = false := by
  rw [call_at h, words_ne hr]
  have : (TL.spl sep 0 [] r).all isConstL = false := by
    cases e : (TL.spl sep 0 [] r).all isConstL with
    | false => rfl
    | true =>
      rw [List.all_eq_true] at e
      rw [e w hw] at hb
      cases hb
  rw [this, Bool.and_false, Bool.and_false]
theorem call_end {t : List Nat} (h : t.getLast? ≠ some 41) : isCallL t = false := by
  unfold isCallL
  rw [decide_eq_false h, Bool.false_and]
theorem call_none {t : List Nat} (h : 40 ∉ t) : isCallL t = false := by
  unfold isCallL
  rw [TL.par_none1 (s := 40) (S := []) (acc := []) (p := t.dropLast) fun hm => h ((List.dropLast_sublist _).subset hm), Bool.and_false]
/-- a joined text is cut into its parts -/
theorem spl_parts : ∀ {parts : List (List Nat)}, parts ≠ [] → (∀ p ∈ parts, SX.free sep p = true) → TL.spl sep 0 [] (TL.joinL sep parts) = parts
  | [], h, _ => absurd rfl h
  | [p], _, hp => by
    show TL.spl sep 0 [] p = [p]
    have hf := hp p (List.mem_singleton.mpr rfl)
    have := TL.spl_last (S := sep) (p := p) (acc := []) fun i hi => ?_
    · simpa using this
    · have z := SX.free_at (sep := sep) hf [] i hi
      cases e : TL.pre sep (p.drop i) with
      | false => rfl
      | true =>
        have e2 : (p ++ (sep ++ [])).drop i = p.drop i ++ sep := by
          rw [List.append_nil, List.drop_append_of_le_length (by omega)]
        rw [e2] at z
        unfold TL.pre at e z
        have e3 := eq_of_beq e
        have hl : sep.length ≤ (p.drop i).length := by
          have := congrArg List.length e3
          rw [List.length_take] at this
          omega
        rw [List.take_append_of_le_length hl, e3] at z
        simp at z
  | p :: q :: r, _, hp => by
    show TL.spl sep 0 [] (p ++ (sep ++ TL.joinL sep (q :: r))) = p :: q :: r
    rw [SX.spl_free _ (by simp) (hp p (List.mem_cons_self ..)), spl_parts (by simp) fun x hx => hp x (List.mem_cons_of_mem _ hx)]
theorem join_ne : ∀ {parts : List (List Nat)}, parts ≠ [] → (∀ p ∈ parts, p ≠ []) → TL.joinL sep parts ≠ []
  | [], h, _ => absurd rfl h
  | [p], _, hp => hp p (List.mem_singleton.mpr rfl)
  | p :: q :: r, _, hp => by
    show p ++ (sep ++ TL.joinL sep (q :: r)) ≠ []
    simp
theorem words_join {parts : List (List Nat)} (h1 : ∀ p ∈ parts, SX.free sep p = true) (h2 : ∀ p ∈ parts, p ≠ []) : wordsL (TL.joinL sep parts) = parts := by
  cases parts with
  | nil => rfl
  | cons p r => rw [words_ne (join_ne (by simp) h2), spl_parts (by simp) h1]
/-- THE LAW of calls: parts between commas -/
theorem call_main {name : List Nat} {parts : List (List Nat)} (h : 40 ∉ name) (h1 : ∀ p ∈ parts, SX.free sep p = true) (h2 : ∀ p ∈ parts, p ≠ []) :
    isCallL (name ++ 40 :: (TL.joinL sep parts ++ [41])) = (isNameL name && (decide (parts.length ≤ 3) && parts.all isConstL)) := by
  rw [call_at h, words_join h1 h2]
theorem name_small {t : List Nat} (h : isNameL t = true) : t ≠ [] ∧ t.length ≤ 12 ∧ ∀ c ∈ t, 97 ≤ c ∧ c ≤ 122 := by
  unfold isNameL isWordL at h
  simp only [Bool.and_eq_true, decide_eq_true_eq, List.all_eq_true] at h
  exact ⟨h.2.1, h.1.1, fun c hc => small_mem.mp (h.1.2 c hc)⟩
theorem cst_free {v : V} (h : Cst v) : SX.free sep (cstL v) = true := SX.free_head fun hm => by
  have := const_good (cst_const h) 44 hm
  unfold good at this
  omega
/-! ### parts of calls that may be wrong -/
structure PartB (t : List Nat) (ok : Bool) : Prop where
  ne : t ≠ []
  o : 40 ∉ t
  s : 41 ∉ t
  free : SX.free sep t = true
  is : isConstL t = ok
  len : t.length ≤ 6000
  low : ∀ c ∈ t, c < 1114112
def partB (t : List Nat) (ok : Bool) : Bool := decide (t ≠ []) && (!decide (40 ∈ t) && (!decide (41 ∈ t) && (SX.free sep t && (decide (isConstL t = ok) && (decide (t.length ≤ 6000) && t.all fun c => decide (c < 1114112))))))
theorem partB_ok {t : List Nat} {ok : Bool} (h : partB t ok = true) : PartB t ok := by
  unfold partB at h
  simp only [Bool.and_eq_true, Bool.not_eq_true', decide_eq_true_eq, decide_eq_false_iff_not, List.all_eq_true] at h
  obtain ⟨h1, h2, h3, h4, h5, h6, h7⟩ := h
  exact ⟨h1, h2, h3, h4, h5, h6, h7⟩
theorem partB_cst {v : V} (h : Cst v) : PartB (cstL v) true := by
  have hg := const_good (cst_const h)
  have key : ∀ c, c ∈ cstL v → good c := fun c hc => hg c hc
  refine ⟨const_ne (cst_const h), fun hm => ?_, fun hm => ?_, cst_free h, cst_const h, Nat.le_trans (cst_len h) (by decide), fun c hc => ?_⟩
  · have := key _ hm; unfold good at this; omega
  · have := key _ hm; unfold good at this; omega
  · have := key _ hc; unfold good at this; omega
theorem mul_tl {c : Nat} {n : Int} (h : 1 < n) : tl (Txt.mul ⟨#[c]⟩ n) = List.replicate n.toNat c := by
  have h1 : ¬ n < 1 := by omega
  have h2 : ¬ ((n == 1 || (⟨#[c]⟩ : Str).length == 0) = true) := by
    have : ¬ n = 1 := by omega
    simp [this, Str.length]
  unfold Txt.mul
  rw [if_neg h1, if_neg h2]
  have key : ∀ (k : Nat) (acc : Array Nat), ((List.replicate k (⟨#[c]⟩ : Str).cps).foldl (· ++ ·) acc).toList = acc.toList ++ List.replicate k c := by
    intro k
    induction k with
    | zero => intro acc; simp
    | succ k ih => intro acc; rw [List.replicate_succ, List.foldl_cons, ih]; simp [List.replicate_succ]
  show ((List.replicate n.toNat (⟨#[c]⟩ : Str).cps).foldl (· ++ ·) #[]).toList = _
  rw [key]
  rfl
theorem partB_long {c : Nat} {n : Nat} (pre : List Nat) (hp : pre = [] ∨ pre = [45]) (hc : 48 ≤ c ∧ c ≤ 57) (hn : 30 < n) (h2 : n ≤ 5000) : PartB (pre ++ List.replicate n c) false := by
  have hm : ∀ d ∈ pre ++ List.replicate n c, d = 45 ∨ d = c := by
    intro d hd
    rcases List.mem_append.mp hd with hd | hd
    · rcases hp with rfl | rfl
      · cases hd
      · exact .inl (List.mem_singleton.mp hd)
    · exact .inr (List.eq_of_mem_replicate hd)
  have hb : numBody (pre ++ List.replicate n c) = List.replicate n c := by
    rcases hp with rfl | rfl
    · unfold numBody
      rw [if_neg]
      · rfl
      · intro e
        have := hm 45 (List.mem_of_mem_head? (by rw [e]; rfl))
        have e2 : c = 45 := by
          have e' : (List.replicate n c).head? = some 45 := e
          rw [List.head?_replicate, if_neg (by omega)] at e'
          exact Option.some.inj e'
        omega
    · rfl
  refine ⟨fun e => ?_, fun h => ?_, fun h => ?_, SX.free_head fun h => ?_, ?_, ?_, fun d hd => ?_⟩
  · have := congrArg List.length e
    rw [List.length_append, List.length_replicate] at this
    simp at this
    omega
  · have := hm _ h; omega
  · have := hm _ h; omega
  · have := hm _ h; omega
  · unfold isConstL
    rw [if_neg]
    · unfold isNumL
      rw [hb, List.length_replicate, decide_eq_false (show ¬ n ≤ 30 by omega), Bool.and_false, Bool.false_and, Bool.or_false]
      refine decide_eq_false fun e => ?_
      have := hm 110 (by rw [e]; decide)
      omega
    · rintro ⟨_, h, _⟩
      have := hm 34 (List.mem_of_mem_head? (by rw [h]; rfl))
      omega
  · rw [List.length_append, List.length_replicate]
    rcases hp with rfl | rfl
    · simp; omega
    · simp; omega
  · have := hm _ hd; omega

/-! ### spoilt calls -/
theorem join_mem0 {c : Nat} : ∀ {parts : List (List Nat)}, c ∈ TL.joinL sep parts → c = 44 ∨ c = 32 ∨ ∃ p ∈ parts, c ∈ p
  | [], h => by cases h
  | [p], h => .inr (.inr ⟨p, List.mem_singleton.mpr rfl, h⟩)
  | p :: q :: r, h => by
    have h : c ∈ p ++ (sep ++ TL.joinL sep (q :: r)) := h
    rcases List.mem_append.mp h with h | h
    · exact .inr (.inr ⟨p, List.mem_cons_self .., h⟩)
    · rcases List.mem_append.mp h with h | h
      · simp at h
        omega
      · rcases join_mem0 h with h | h | ⟨x, hx, h⟩
        · exact .inl h
        · exact .inr (.inl h)
        · exact .inr (.inr ⟨x, List.mem_cons_of_mem _ hx, h⟩)

theorem join_last {c : Nat} (h41 : c = 41) : ∀ {parts : List (List Nat)}, (∀ p ∈ parts, c ∉ p) → c ∉ TL.joinL sep parts := by
  intro parts h hm
  rcases join_mem0 hm with e | e | ⟨p, hp, e⟩
  · omega
  · omega
  · exact h p hp e
theorem name_no {t : List Nat} (h : isNameL t = true) {c : Nat} (hc : c < 97) : c ∉ t := fun hm => by
  have := (name_small h).2.2 c hm
  omega
theorem bad_first {name q : List Nat} {c : Nat} (h : 40 ∉ name) (h44 : c ≠ 44) (hb : ¬ good c) : isCallL (name ++ 40 :: ((c :: q) ++ [41])) = false := by
  obtain ⟨w, hw, hc⟩ := spl_first (p := []) (q := q) (c := c) (by simp) (TL.pre_of_head _ _ h44) []
  exact call_bad h (by simp) hw (const_bad hc hb)
theorem bad_last {name q : List Nat} {c : Nat} (h : 40 ∉ name) (hb : ¬ good c) : isCallL (name ++ 40 :: ((q ++ [c]) ++ [41])) = false := by
  obtain ⟨w, hw, hc⟩ := spl_end q c
  refine call_bad h (by simp) hw ?_
  rcases hc with rfl | hc
  · exact const_nil
  · exact const_bad hc hb
theorem bad_at {name p q : List Nat} {c : Nat} (h : 40 ∉ name) (hp : 44 ∉ p) (hc : TL.pre sep (c :: q) = false) (hb : ¬ good c) : isCallL (name ++ 40 :: ((p ++ c :: q) ++ [41])) = false := by
  obtain ⟨w, hw, hcw⟩ := spl_first (p := p) (q := q) (c := c) hp hc []
  exact call_bad h (by simp) hw (const_bad hcw hb)
theorem bad_next {name p q w : List Nat} (h : 40 ∉ name) (hp : 44 ∉ p) (hw : w ∈ TL.spl sep 0 [] q) (hb : isConstL w = false) : isCallL (name ++ 40 :: ((p ++ 44 :: 32 :: q) ++ [41])) = false :=
  call_bad h (by simp) (by rw [spl_sep p q hp]; exact List.mem_cons_of_mem _ hw) hb
theorem good_not {c : Nat} (h : good c) : c ≠ 44 ∧ c ≠ 32 ∧ c ≠ 40 ∧ c ≠ 41 ∧ c ≠ 59 := by
  unfold good at h
  omega
/-- two right constants and something else than a comma and a blank between them -/
theorem bad_comma {name p1 p2 cm rest : List Nat} (h : 40 ∉ name) (h1 : isConstL p1 = true) (h2 : isConstL p2 = true)
    (hc : cm = [44] ∨ cm = [32, 44] ∨ cm = [32, 44, 32] ∨ cm = [44, 32, 32] ∨ cm = [32] ∨ cm = [59] ∨ cm = [44, 32, 44, 32]) : isCallL (name ++ 40 :: ((p1 ++ (cm ++ (p2 ++ rest))) ++ [41])) = false := by
  have n44 : 44 ∉ p1 := fun hm => (good_not (const_good h1 _ hm)).1 rfl
  obtain ⟨d, r, hd⟩ : ∃ d r, p2 = d :: r := by
    cases e : p2 with
    | nil => exact absurd e (const_ne h2)
    | cons d r => exact ⟨d, r, rfl⟩
  have gd := good_not (const_good h2 d (by rw [hd]; exact List.mem_cons_self ..))
  have nb : ∀ c, c = 44 ∨ c = 32 ∨ c = 59 → ¬ good c := by
    intro c hc hg
    have := good_not hg
    omega
  rcases hc with rfl | rfl | rfl | rfl | rfl | rfl | rfl
  · refine bad_at (c := 44) h n44 ?_ (nb _ (.inl rfl))
    rw [hd]
    unfold TL.pre
    show (([44, d] : List Nat) == [44, 32]) = false
    rw [beq_eq_false_iff_ne]
    intro e
    have : d = 32 := by simpa using e
    omega
  · exact bad_at (c := 32) (q := 44 :: (p2 ++ rest)) h n44 (TL.pre_of_head _ _ (by decide)) (nb _ (.inr (.inl rfl)))
  · exact bad_at (c := 32) (q := 44 :: 32 :: (p2 ++ rest)) h n44 (TL.pre_of_head _ _ (by decide)) (nb _ (.inr (.inl rfl)))
  · obtain ⟨w, hw, hcw⟩ := spl_first (p := []) (q := p2 ++ rest) (c := 32) (by simp) (TL.pre_of_head _ _ (by decide)) []
    exact bad_next (q := 32 :: (p2 ++ rest)) h n44 hw (const_bad hcw (nb _ (.inr (.inl rfl))))
  · exact bad_at (c := 32) (q := p2 ++ rest) h n44 (TL.pre_of_head _ _ (by decide)) (nb _ (.inr (.inl rfl)))
  · exact bad_at (c := 59) (q := p2 ++ rest) h n44 (TL.pre_of_head _ _ (by decide)) (nb _ (.inr (.inr rfl)))
  · exact bad_next (q := 44 :: 32 :: (p2 ++ rest)) (w := []) h n44 (by rw [show (44 :: 32 :: (p2 ++ rest) : List Nat) = [] ++ 44 :: 32 :: (p2 ++ rest) from rfl, spl_sep [] _ (by simp)]; exact List.mem_cons_self ..) const_nil

/-! ### more of the layer -/
section
variable {X : Cx} {k j : Nat} {x : Str} {sp : Sp} {p pos : Pos}
theorem pe_cA0 (c : Cal X.prog X.w X.K X.mg X.base k x sp) (hr : Room j X.A) (hk : k ≤ j) (hg : Gl X x) (hdb : (x == ("__debug__" : Str)) = false := by decide) :
    PE X (.Call (.Name x p) [] [] pos) (tCall sp [] L2.E0 tNil) := by
  obtain ⟨f, fd, ps, F, hm, kp, b⟩ := c.ex
  exact pe_call0 F (hr.mono hk) hg hm kp b .nil L2.pass0 hdb
def rStrA : List V → Hp → VK → Prop := fun xs H Q => ∃ i, xs = [.int i] ∧ i.natAbs.log2 < 1920 ∧ Q (.str (Str.ofString (toString i))) H
theorem call_strA : CallR X (.type "str") rStrA := call_str_int
end
theorem r_str {H : Hp} {Q : VK} {i : Int} (h : i.natAbs < 10 ^ 100) (q : Q (.str (Str.ofString (toString i))) H) : rStrA [.int i] H Q := ⟨i, rfl, Nat.lt_of_lt_of_le (PySem.Flt.log2_lt_of (k := 400) (by decide) (Nat.lt_of_lt_of_le h (by decide))) (by decide), q⟩
/-- a call as a text, and what it is made of -/
def CallOk (z : Str) : Prop := ∃ (name : List Nat) (vs : List V), isNameL name = true ∧ (∀ v ∈ vs, Cst v) ∧ vs.length ≤ 3 ∧ tl z = name ++ 40 :: (TL.joinL sep (vs.map cstL) ++ [41])
theorem CallOk.is {z : Str} (h : CallOk z) : isCallL (tl z) = true := by
  obtain ⟨name, vs, h1, h2, h3, h4⟩ := h
  rw [h4, call_main, h1, List.length_map, decide_eq_true h3, Bool.true_and, Bool.true_and, List.all_map, List.all_eq_true]
  · exact fun v hv => cst_const (h2 v hv)
  · intro hm
    have := (name_small h1).2.2 40 hm
    omega
  · intro p hp
    obtain ⟨v, hv, rfl⟩ := List.mem_map.mp hp
    exact cst_free (h2 v hv)
  · intro p hp
    obtain ⟨v, hv, rfl⟩ := List.mem_map.mp hp
    exact const_ne (cst_const (h2 v hv))
theorem join_mem {c : Nat} {parts : List (List Nat)} (h : c ∈ TL.joinL sep parts) : c = 44 ∨ c = 32 ∨ ∃ p ∈ parts, c ∈ p := join_mem0 h
theorem join_len {m : Nat} : ∀ {parts : List (List Nat)}, (∀ p ∈ parts, p.length ≤ m) → (TL.joinL sep parts).length ≤ parts.length * (m + 2)
  | [], _ => by simp [TL.joinL]
  | [p], h => by
    have := h p (List.mem_singleton.mpr rfl)
    show p.length ≤ 1 * (m + 2)
    omega
  | p :: q :: r, h => by
    have h1 := h p (List.mem_cons_self ..)
    have h2 := join_len (m := m) (parts := q :: r) fun x hx => h x (List.mem_cons_of_mem _ hx)
    show (p ++ (sep ++ TL.joinL sep (q :: r))).length ≤ (r.length + 1 + 1) * (m + 2)
    rw [List.length_append, List.length_append]
    rw [List.length_cons] at h2
    have : (r.length + 1 + 1) * (m + 2) = (r.length + 1) * (m + 2) + (m + 2) := Nat.succ_mul _ _
    show p.length + (2 + _) ≤ _
    omega
theorem CallOk.fit {z : Str} (h : CallOk z) : fit (.str z) = true := by
  obtain ⟨name, vs, h1, h2, h3, h4⟩ := h
  obtain ⟨n1, n2, n3⟩ := name_small h1
  have hj := join_len (m := 40) (parts := vs.map cstL) fun p hp => by
    obtain ⟨v, hv, rfl⟩ := List.mem_map.mp hp
    exact cst_len (h2 v hv)
  rw [List.length_map] at hj
  refine fit_of ?_ ?_
  · rw [h4, List.length_append, List.length_cons, List.length_append]
    show name.length + (_ + 1 + 1) ≤ _
    omega
  · intro c hc
    rw [h4] at hc
    rcases List.mem_append.mp hc with hc | hc
    · have := n3 c hc; omega
    · rcases List.mem_cons.mp hc with hc | hc
      · omega
      · rcases List.mem_append.mp hc with hc | hc
        · rcases join_mem hc with h | h | ⟨p, hp, h⟩
          · omega
          · omega
          · obtain ⟨v, hv, rfl⟩ := List.mem_map.mp hp
            have := const_good (cst_const (h2 v hv)) c h
            unfold good at this
            omega
        · have := List.mem_singleton.mp hc; omega
theorem cst_fit {v : V} (h : Cst v) : fit (.str (cstS v)) = true := by
  refine fit_of (Nat.le_trans (cst_len h) (by decide)) fun c hc => ?_
  have := const_good (cst_const h) c hc
  unfold good at this
  omega
end WP

set_option Elab.async false
set_option linter.all false
set_option maxRecDepth 100000
set_option maxHeartbeats 4000000
namespace WP
open PySem PySem.Spec PyProof.Rows L2
/-! ### calls with keywords: the values are written in the parameters' order -/
structure CalK (P : Program) (w : World) (K : PySem.W.Frag) (mg : Str → Option Value) (base : Heap) (k : Nat) (x : Str) (sp : Sp) (n : Nat) (ks : List Str) : Prop where
  ex : ∃ (f : Addr) (fd : FuncData) (ps : List Str), FnOk P w K mg base L2.CX0 k f fd ps sp ∧ mg x = some (.ref f) ∧ PySem.W.keepIn K (.ref f) = true ∧ KBn K fd ps n ks (fun us ws => us ++ ws) (fun vs zs => vs ++ zs)
def tCallW (n m : Nat) (sp : Sp) (t tk : TA) : TE := fun σ H Q => t σ H fun vs H1 => tk σ H1 fun zs H2 => vs.length = n ∧ zs.length = m ∧ sp (vs ++ zs) H2 Q L2.E0
theorem r_callW {n m : Nat} {sp : Sp} {t tk : TA} {σ : L2.St} {H : Hp} {Q : VK} (q : t σ H fun vs H1 => tk σ H1 fun zs H2 => vs.length = n ∧ zs.length = m ∧ sp (vs ++ zs) H2 Q L2.E0) : tCallW n m sp t tk σ H Q := q
section
variable {X : Cx} {k j n : Nat} {x : Str} {sp : Sp} {ks : List Str} {p pos : Pos} {e : Expr} {es : List Expr} {kws : List Keyword} {t tk : TA}
theorem pe_cK (c : CalK X.prog X.w X.K X.mg X.base k x sp n ks) (hr : Room j X.A) (hk : k ≤ j) (hg : Gl X x) (ha : PA X (e :: es) t) (hkw : PK X kws tk)
    (hall : (backToKw pos (keywordEach kws X.env)).all (·.1.isSome) = true := by rfl) (hks : (backToKw pos (keywordEach kws X.env)).filterMap (·.1) = ks := by rfl)
    (hdb : (x == ("__debug__" : Str)) = false := by decide) (he : starEach (e :: es) X.env = (false, eval e X.env) :: starEach es X.env := by rfl)
    (hpl : ((backTo pos (starEach (e :: es) X.env)).any (·.1) || (backToKw pos (keywordEach kws X.env)).any (·.1.isNone)) = false := by rfl) :
    PE X (.Call (.Name x p) (e :: es) kws pos) (tCallW n ks.length sp t tk) := by
  obtain ⟨f, fd, ps, F, hm, kp, b⟩ := c.ex
  exact pe_callN F (hr.mono hk) hg hm kp b L2.pass0 ha hkw hall hks hdb he hpl
theorem pe_cK0 (c : CalK X.prog X.w X.K X.mg X.base k x sp 0 ks) (hr : Room j X.A) (hk : k ≤ j) (hg : Gl X x) (hkw : PK X kws tk)
    (hall : (backToKw pos (keywordEach kws X.env)).all (·.1.isSome) = true := by rfl) (hks : (backToKw pos (keywordEach kws X.env)).filterMap (·.1) = ks := by rfl)
    (hdb : (x == ("__debug__" : Str)) = false := by decide)
    (hpl : ((backTo pos (starEach [] X.env)).any (·.1) || (backToKw pos (keywordEach kws X.env)).any (·.1.isNone)) = false := by rfl) :
    PE X (.Call (.Name x p) [] kws pos) (tCallW 0 ks.length sp tNil tk) := by
  obtain ⟨f, fd, ps, F, hm, kp, b⟩ := c.ex
  refine ⟨fun pins s σ H Q I h => ?_⟩
  refine wpAny_Call_Name_kw (ld_glob I hg hm ?_ hdb)
  refine PySem.W.callWith_KW0 (h₀ := X.base) I.ok.mod.kin kp hall (thn (hkw.run pos pins s σ H _ I h) fun ws s2 ⟨zs, H2, I2, rz, l1, l2, q2⟩ => ⟨I2.kIn, ?_⟩) hpl
  rw [hks]
  exact run_fnN F (hr.mono hk) b L2.pass0 I2 .nil rz l1 l2 q2
end
section
variable {P : Program} {w : World} {K : PySem.W.Frag} {mg : Str → Option Value} {base : Heap}
theorem Vals.app {vs zs : List V} {us ws : List Value} (h1 : Vals vs us) (h2 : Vals zs ws) : Vals (vs ++ zs) (us ++ ws) := h1.append h2
/-- all parameters are written, by place and by name -/
theorem calK_of {x : Str} {st : Stmt} {N ps : List Str} {k : Nat} {sp : Sp} {kws : List (Str × V)} (F : AtD K mg x st [] kws) (S : FnScope N ps (defScope st)) (len : ∀ vs H Q E, sp vs H Q E → vs.length = ps.length)
    (hbody : ∀ (f : Addr) (cdv : Value) (A : Around) (outer : List Env) (s : Shared) (H : Hp) (vs : List V) (Q : VK) (E : XK), Room k (A.deeper (envOfC x (defScope st) s.heap.objs.size f cdv)) → sp vs H Q E →
      ∃ t, PSs (cxOf L2.CX0 P w K mg base N x (defScope st) f cdv A outer s H E).nox (defBody st) t ∧ t { nx := fun _ H' => Q .non H', rt := Q } (start N vs) H) (n : Nat) (ks : List Str)
    (hb : ∀ (kV doc pm : Value) (an : Option Addr) (cdv ct : Value) (us ws : List Value), us.length = n → ws.length = ks.length →
      bindArgs (PySem.W.fnOf x x (defArgs st) (defBody st) (defScope st) .none kV doc pm an cdv ct) ⟨us, ks.zip ws⟩ = pure (ps.zip (us ++ ws))) : CalK P w K mg base (k + 1) x sp n ks := by
  obtain ⟨f, fd, F, m⟩ := F.ex
  refine ⟨f, fd, ps, F.ok S len fun cdv A outer s H vs Q E hr hsp => ?_, m, F.kp, ?_⟩
  · obtain ⟨t, h, q⟩ := hbody f cdv A outer s H vs Q E hr hsp
    exact ⟨t, h.nox, q⟩
  · obtain ⟨oc, od, dV, kV, doc, pm, an, cdv, ct, osl, rfl, lk, hcd, hD, hK⟩ := F.ex
    rcases hD with ⟨_, rfl⟩ | ⟨e, _⟩
    · exact ⟨fun s us ws _ h1 h2 => BindsTo.of_eq (hb kV doc pm an cdv ct us ws h1 h2), fun h1 h2 => Vals.app h1 h2⟩
    · exact absurd rfl e
/-- the keyword-only ones are left out -/
theorem calD0_of {x : Str} {st : Stmt} {N ps : List Str} {k : Nat} {sp : Sp} {kws : List (Str × V)} (F : AtD K mg x st [] kws) (S : FnScope N ps (defScope st)) (len : ∀ vs H Q E, sp vs H Q E → vs.length = ps.length)
    (hbody : ∀ (f : Addr) (cdv : Value) (A : Around) (outer : List Env) (s : Shared) (H : Hp) (vs : List V) (Q : VK) (E : XK), Room k (A.deeper (envOfC x (defScope st) s.heap.objs.size f cdv)) → sp vs H Q E →
      ∃ t, PSs (cxOf L2.CX0 P w K mg base N x (defScope st) f cdv A outer s H E).nox (defBody st) t ∧ t { nx := fun _ H' => Q .non H', rt := Q } (start N vs) H) (n : Nat) (hk : kws ≠ []) (hn : n + kws.length = ps.length)
    (hb : ∀ (D : Addr) (doc pm : Value) (an : Option Addr) (cdv ct : Value) (us ks : List Value), us.length = n → ks.length = kws.length →
      KwChain D ((kws.map (·.1)).zip ks) (bindArgs (PySem.W.fnOf x x (defArgs st) (defBody st) (defScope st) .none (.ref D) doc pm an cdv ct) ⟨us, []⟩) (ps.zip (us ++ ks))) : CalD P w K mg base (k + 1) x sp (kws.map (·.2)) := by
  obtain ⟨f, fd, F, m⟩ := F.ex
  obtain ⟨ds, hv, b⟩ := F.binds0 n hk hn hb
  refine ⟨f, fd, ps, ds, F.ok S len fun cdv A outer s H vs Q E hr hsp => ?_, m, F.kp, b, hv⟩
  obtain ⟨t, h, q⟩ := hbody f cdv A outer s H vs Q E hr hsp
  exact ⟨t, h.nox, q⟩
end
/-! ### paths -/
def isPathD (ag : Bool) : PyData → Bool
  | .tuple xs => !(decide (xs.length = 0) || (!ag && decide (1 < xs.length))) && xs.all isCallD
  | _ => false
end WP

set_option Elab.async false
set_option linter.all false
set_option maxRecDepth 100000
set_option maxHeartbeats 4000000
namespace WP
open PySem PySem.Spec PyProof.Rows L2
/-! ### super().__init__(text) in an own exception's __init__ -/
/-- what the written part says: the class C of the exception, D where the __init__ stands, f the __init__, c its code, cc its cell of __class__ -/
structure SupIn (P : Program) (K : PySem.W.Frag) (B i : String) (C D c cc : Addr) : Prop where
  code : ∃ ccl cdd vs ccs file tf, K.lookup c = some ⟨ccl, cdd, .fields vs, ccs⟩ ∧ vs[2]? = some (.str file tf) ∧ (P.main.file == file) = true
  cell : ∃ cl cld csl, K.lookup cc = some ⟨cl, cld, .cell (some (.ref D)), csl⟩
  cls : ∃ cd, PySem.W.clsIn K D = some cd
  msub : PySem.W.mroIn K C (.ref D) = some true
  sup : PySem.W.ks_superIn K C D "__init__" = some (some (.builtin i))
  subB : PySem.W.subIn K (.ref C) (.type B) = some true
  opq : PySem.W.nsIn K cStatics "thirdparty.any" = some none
  top : (P.main.scope.names.lookup ("super" : Str)).isSome = false
/-- the object of an own error whose fields are not laid yet -/
abbrev bare (C t1 : Addr) (d : Option Addr) : Obj := { cls := .ref C, dict := d, data := .fields #[.ref t1, .none, .none, .none, .bool false, .none] }
/-- a base's own __init__, bound to an own error and called: nothing but the error's arguments changes. Of heaps alone -/
theorem wrapper_runs {Bb nb ib : String} {tl : List Value} (F : ExcBaseFacts Bb nb ib tl) {prog : Program} {w : World} {A : Around} {E : Value → Shared → Prop} {s : Shared} {Q : Value → Shared → Prop} {u a C t1 : Addr} {us : List Value} {dv : Option Addr}
    {nm q : Str} {N : Addr} {bs bm : List Value} {hd : Bool} {sn : List Str} {sub : List Value} {ab : Bool} {col : Option Bool} {dd : Option Addr} {k0 k1 k2 k3 k5 : Option Value}
    (hC : s.heap.get? C = some (excClassObj nm q C N bs bm hd sn sub ab col dd k0 k1 k2 k3 k5 nb)) (ha : s.heap.get? a = some (bare C t1 dv)) (hu : s.heap.get? u = some (PySem.W.kxs_mw ib a)) (hl : us.length ≤ sizeLine)
    (done : ∀ h', (∀ b o, b ≠ a → s.heap.get? b = some o → h'.get? b = some o) → (∃ t2, h'.get? a = some (bare C t2 dv)) → Q .none { s with heap := h' }) : wpAny (model prog w) A (call (.ref u) us) Q E s := by
  obtain ⟨hp, g, d, tk, os⟩ := s
  have chk : ∀ (A : Around) (E : Value → Shared → Prop) (Q' : Unit → Shared → Prop), Q' () ⟨hp, g, d, tk, os⟩ → wpAny (model prog w) A (checkBoundCall ib ⟨.ref a :: us, []⟩) Q' E ⟨hp, g, d, tk, os⟩ :=
    fun A E Q' z => PySem.W.check_bound_init F.toExcCallFacts hC ha rfl z
  refine wpAny_call (codeAny_of_tree ?_)
  simp only [callAny]
  refine wpAny_bind (wpAny_load hu ?_)
  dsimp only [PySem.W.kxs_mw]
  refine PySem.W.KFB.if_so (by decide) (PySem.W.KFB.if_so (by decide) ?_)
  refine wpAny_bind (chk _ _ _ (wpAny_pure ⟨plainId_quiet F.init.plain _, codeAny_builtin F.initEntry ?_⟩))
  exact PySem.W.exc_init_tree ha hl fun h' keep hx _ => done h' keep ⟨_, hx⟩
/-- the same in a frame: the error stays as it was told -/
theorem wrapper_inv {Bb nb ib : String} {tl : List Value} (F : ExcBaseFacts Bb nb ib tl) {X : Cx} {pins : List (Addr × Obj)} {σ : L2.St} {H : Hp} {s : Shared} {E : Value → Shared → Prop} {a C u : Addr} {us : List Value} {Q : Value → Shared → Prop}
    (hC : ∃ nm q N bs bm hd sn sub ab col dd k0 k1 k2 k3 k5, X.K.lookup C = some (excClassObj nm q C N bs bm hd sn sub ab col dd k0 k1 k2 k3 k5 nb)) (I : Inv X pins σ H s) (ea : H a = some (exo a C none)) (hu : s.heap.get? u = some (PySem.W.kxs_mw ib a)) (hl : us.length ≤ sizeLine)
    (h : ∀ s', Inv X pins σ H s' → Q .none s') : wpAny (model X.prog X.w) X.A (call (.ref u) us) Q E s := by
  obtain ⟨nm, q, N, bs, bm, hd, sn, sub, ab, col, dd, k0, k1, k2, k3, k5, e⟩ := hC
  obtain ⟨t1, ha⟩ := exo_at I.hok ea
  refine wrapper_runs F (I.kIn _ _ e) ha hu hl fun h' keep ⟨t2, h2⟩ => h _ ?_
  have same : upd H a (exo a C none) = H := funext fun b => by
    by_cases z : b = a
    · subst z; rw [upd_same, ea]
    · exact upd_ne z
  have J := I.write (t' := s.toks) (x := a) (e := a) (o := exo a C none) (by rw [ea]; trivial) (.inl rfl) keep ⟨_, h2⟩ (exo_ok h2)
  rwa [same] at J
section
variable {X : Cx} {pins : List (Addr × Obj)} {σ : L2.St} {H : Hp} {s : Shared} {a C D f c cc : Addr} {body : List Stmt} {p0 p1 p2 p3 p4 p5 : Pos} {z : Str} {kk : Nat} {E : Value → Shared → Prop}
  {oc : Value} {od : Option Addr} {fd : FuncData} {osl : Array (Option Value)} {ar : Arg} {Q : Flow → Shared → Prop}
/-- the wrapper is called -/
theorem mw_call {u : Addr} {us : List Value} {Q : Value → Shared → Prop} (T : OexC X.K C) (I : Inv X pins σ H s) (ea : H a = some (exo a C none)) (hu : s.heap.get? u = some (PySem.W.kxs_mw "ValueError.__init__" a)) (hl : us.length ≤ sizeLine) (h : ∀ s', Inv X pins σ H s' → Q .none s') :
    wpAny (model X.prog X.w) X.A (call (.ref u) us) Q E s :=
  wrapper_inv F.excBase_ValueError (by
    obtain ⟨nm, q, N, bs, bm, sn, sub, ab, col, dd, k0, k1, k2, k3, k5, z, _⟩ := T.cls
    exact ⟨nm, q, N, bs, bm, true, sn, sub, ab, col, dd, k0, k1, k2, k3, k5, z⟩) I ea hu hl h
theorem sup_step (T : OexC X.K C) (U : SupIn X.prog X.K "ValueError" "ValueError.__init__" C D c cc) (I : Inv X pins σ H s) (hks : X.env.kindOf "super" = some .globalImplicit) (hkc : X.env.kindOf "__class__" = some .free) (hfu : X.env.func = some f) (hco : X.env.code = .ref c)
    (hcl : X.env.cells.lookup ("__class__" : Str) = some cc) (hm : X.mg "super" = none) (hf : X.K.lookup f = some ⟨oc, od, .func fd, osl⟩) (hp : (fd.params.posonlyargs ++ fd.params.args).head? = some ar)
    (hN : X.N[0]? = some ar.arg) (hka : X.env.kindOf ar.arg = some .local) (hσ : σ[0]? = some (some (.ref a))) (ea : H a = some (exo a C none)) (hi : interactive X.env = false) {pl : Sem Bool}
    (he : eval (.Call (.Attribute (.Call (.Name "super" p0) [] [] p1) "__init__" p2) [.Constant (.str z) kk p3] [] p4) X.env = (do
      let ov ← attributeBase (.Call (.Name "super" p0) [] [] p1) "__init__" X.env (eval (.Call (.Name "super" p0) [] [] p1) X.env)
      standAt p2.atName
      let (f, first) ← holding [ov] (getMethod ov "__init__" pl)
      callWith p4 f first (backTo p4 (starEach [.Constant (.str z) kk p3] X.env)) [])) (hQ : ∀ s', Inv X pins σ H s' → Q .next s') :
    _root_.PySem.wpAt (model X.prog X.w) X.A (.func body X.env) (exec (.Expr (.Call (.Attribute (.Call (.Name "super" p0) [] [] p1) "__init__" p2) [.Constant (.str z) kk p3] [] p4) p5) X.env) Q X.xe s := by
  have KX := I.kIn
  obtain ⟨ccl, cdd, vs, ccs, file, tf, hcode, hvs, hfile⟩ := U.code
  obtain ⟨cl, cld, csl, hcell⟩ := U.cell
  obtain ⟨cdD, hD⟩ := U.cls
  obtain ⟨oD, hD1, hD2⟩ : ∃ oD, s.heap.get? D = some oD ∧ oD.data = .cls cdD := by
    unfold PySem.W.clsIn at hD
    split at hD
    · rename_i c d cd' sl ho
      cases hD
      exact ⟨_, KX _ _ ho, rfl⟩
    · cases hD
  obtain ⟨m, hns, hlo⟩ := I.loc
  obtain ⟨v, rv, hv⟩ := hlo 0 _ _ hN hσ (.inl hka)
  obtain rfl : v = Value.ref a := rv
  have hv : m ar.arg = some (.ref a) := by
    rcases hv with ⟨_, hv⟩ | ⟨hk, _⟩
    · exact hv
    · rcases hk with hk | hk <;> rw [hka] at hk <;> cases hk
  obtain ⟨t1, ho⟩ := exo_at I.hok ea
  obtain ⟨nm, q, N, bs, bm, sn, sub, ab, col, dd, k0, k1, k2, k3, k5, hC, hbm⟩ := T.cls
  have hclC : PySem.W.clsIn X.K C = some { name := nm, bases := bs, mro := .ref C :: bm, ns := N, qualname := q, hasDict := true, slotNames := sn, subclasses := sub, abstract := ab, collection := col, hasDel := false } := by unfold PySem.W.clsIn; rw [hC] <;> rfl
  refine ks_wpAt_Expr_any ?_ hi
  refine ks_wpAt_MethodCall ?_ he
  refine ks_wpAt_super_base (env := X.env) hks hkc (by decide) hfu (KX _ _ hf) rfl hp hco (KX _ _ hcode) rfl hvs hfile U.top ?_
  obtain ⟨mb, b1, b2⟩ := I.mod.blt
  refine PySem.W.ks_loadName_global I.ok.kind hks (PySem.Calls.loadGlobal_builtin (by rw [I.ok.glob]; exact I.mod.glob.keeps I.bk) hm (by rw [I.ok.blt]; exact b1.keeps I.bk) ((b2 _ (by decide)).trans PyProof.Rows.Boot.«super») ⟨rfl, ?_⟩)
  refine wpAny_loadName_free I.ok.kind hkc hcl ⟨_, KX _ _ hcell, rfl⟩ ?_
  refine wpAny_loadName_local I.ok.kind hka hns hv ?_
  refine ks_wpAny_isType_cls hD1 hD2 ⟨rfl, ?_⟩
  obtain ⟨hh, g, d, t, os⟩ := s
  refine ks_wpAny_call_super hD1 hD2 ho rfl (fun c e => by cases e) (PySem.W.looks_mroIn KX U.msub) (fun h' e k => ?_)
  have I2 : Inv X pins σ H ⟨h', g, d, t, os⟩ := I.kept (t' := t) k
  have hm2 := U.sup
  unfold PySem.W.ks_superIn at hm2
  rw [hclC] at hm2
  have hI : PySem.W.Looks (model X.prog X.w) h' (isInstance (.ref a) (.type "ValueError")) true := (PySem.W.InstAt.type (x := a) (od := none) ⟨k _ _ ho, rfl, rfl, trivial⟩).andThen (PySem.W.looks_subIn I2.kIn U.subB)
  have hac : a ≠ C := fun e => by
    have h1 : hh.get? C = _ := KX _ _ hC
    rw [← e, ho] at h1
    cases h1
  refine PySem.W.kxs_getMethod PySem.W.kxs_ValueError e (PySem.W.looks_opaque I2.kIn U.opq) (l₀ := .ref C :: bm) ?_ rfl I2.kIn hm2 hI hac (by decide) ?_
  · exact fun A Q E s k q => wpAny_bind ((PySem.W.looks_clsIn I2.kIn hclC) A _ E s k (wpAny_pure q))
  have hpu : ∀ b o, h'.get? b = some o → (h'.push (PySem.W.kxs_mw "ValueError.__init__" a)).get? b = some o := fun b o e => Heap.get?_push_of_some _ e
  have hmw : (h'.push (PySem.W.kxs_mw "ValueError.__init__" a)).get? h'.objs.size = some (PySem.W.kxs_mw "ValueError.__init__" a) := Heap.get?_push_at rfl rfl
  have I3 : Inv X pins σ H ⟨h'.push (PySem.W.kxs_mw "ValueError.__init__" a), g, d, t + 1, os⟩ := I2.kept (t' := t + 1) hpu
  have nu : H h'.objs.size = none := I2.hok.fresh (Nat.le_refl _)
  have I5 : Inv X (pins ++ [(h'.objs.size, PySem.W.kxs_mw "ValueError.__init__" a)]) σ H ⟨h'.push (PySem.W.kxs_mw "ValueError.__init__" a), g, d, t + 1, os⟩ := ⟨I3.ok, I3.os, I3.bare, I3.base, I3.loc, I3.cell, I3.free, I3.freeC, fun p hp => by
    rw [← List.append_assoc] at hp
    rcases List.mem_append.mp hp with hp | hp
    · exact I3.pin p hp
    · rw [List.mem_singleton.mp hp]
      exact ⟨hmw, nu, Nat.ne_of_gt I2.lt, I2.nofs (Nat.le_refl _), fun v e => by cases e⟩, I3.hok, I3.len⟩
  generalize h'.objs.size = u at I5 hmw nu ⊢
  generalize h'.push (PySem.W.kxs_mw "ValueError.__init__" a) = h3 at I5 I3 hmw hpu ⊢
  refine PySem.W.kxs_callWith (i := "ValueError.__init__") (x := a) rfl ?_
  refine PySem.Calls.evalArgs_plain ?_
  refine thn ((pa_cons (pe_str (x := z) (j := kk) (pos := p3)) pa_nil : PA X [.Constant (.str z) kk p3] (tCons (tC (.str z)) tNil)).run p4 _ _ σ H (fun vs H1 => vs = [.str z] ∧ H1 = H) I5 ⟨rfl, rfl⟩) fun us s1 ⟨vs, H1, I4, rv, ev, eH⟩ => ?_
  subst eH ev
  have hpin := (I4.pin (u, PySem.W.kxs_mw "ValueError.__init__" a) (List.mem_append_right _ (List.mem_append_right _ (List.mem_singleton.mpr rfl)))).1
  have I6 : Inv X pins σ H1 s1 := I4.unpinned
  have hl : us.length ≤ sizeLine := by
    rw [← Paired.length rv, sizeLine_eq]
    simp
  exact ⟨hpin, mw_call T I6 ea hpin hl hQ⟩
end
/-- the __init__ of such a class, by the rest of its body -/
theorem fn_sup {CX : CXT} {P : Program} {w : World} {K : PySem.W.Frag} {mg : Str → Option Value} {base : Heap} {k : Nat} {f c cc D : Addr} {name qual : Str} {params : Arguments} {rest : List Stmt} {scope : Scope} {dV kV doc pm ct oc : Value} {an od : Option Addr}
    {osl : Array (Option Value)} {N ps : List Str} {sp : Sp} {p0 p1 p2 p3 p4 p5 : Pos} {z : Str} {kk : Nat} {ar : Arg}
    (lk : K.lookup f = some ⟨oc, od, .func (PySem.W.fnX name qual params (.Expr (.Call (.Attribute (.Call (.Name "super" p0) [] [] p1) "__init__" p2) [.Constant (.str z) kk p3] [] p4) p5 :: rest) scope [("__class__", cc)] dV kV doc pm an (.ref c) ct), osl⟩)
    (hcd : PySem.W.codeIn K (.ref c) qual = true) (S : NdefX.NScope N ps ["__class__"] scope) (hm : mg "super" = none) (hp : (params.posonlyargs ++ params.args).head? = some ar) (hN : N[0]? = some ar.arg) (hka : scope.names.lookup ar.arg = some .local)
    (hks : scope.names.lookup ("super" : Str) = some .globalImplicit)
    (he : ∀ env, ∃ pl, eval (.Call (.Attribute (.Call (.Name "super" p0) [] [] p1) "__init__" p2) [.Constant (.str z) kk p3] [] p4) env = (do
      let ov ← attributeBase (.Call (.Name "super" p0) [] [] p1) "__init__" env (eval (.Call (.Name "super" p0) [] [] p1) env)
      standAt p2.atName
      let (f, first) ← holding [ov] (getMethod ov "__init__" pl)
      callWith p4 f first (backTo p4 (starEach [.Constant (.str z) kk p3] env)) []))
    (len : ∀ vs H Q E, sp vs H Q E → vs.length = ps.length)
    (hbody : ∀ (A : Around) (outer : List Env) (s : Shared) (H : Hp) (vs : List V) (Q : VK) (E : XK), sp vs H Q E →
      (∃ (a C : Addr) (ws : List V), vs = .ref a :: ws ∧ OexC K C ∧ SupIn P K "ValueError" "ValueError.__init__" C D c cc ∧ H a = some (exo a C none)) ∧
      ∃ t, PSs (NdefX.ncx CX P w K mg base N ⟨name, qual, params, rest, scope, [("__class__", cc)], c⟩ f A outer s H E) rest t ∧ t { nx := fun _ H' => Q .non H', rt := Q } (NdefX.startF N vs [none]) H) :
    FnOk P w K mg base CX (k + 1) f (PySem.W.fnX name qual params (.Expr (.Call (.Attribute (.Call (.Name "super" p0) [] [] p1) "__init__" p2) [.Constant (.str z) kk p3] [] p4) p5 :: rest) scope [("__class__", cc)] dV kV doc pm an (.ref c) ct) ps sp := by
  refine ⟨len, fun A outer s H args us vs Q E hr e0 hb r hsp => ?_⟩
  have hl := len _ _ _ _ hsp
  have KX : K.In s.heap := e0.mod.kin.keeps fun b o e => (e0.bs b o e).1
  have lim : s.heap.NoLimit := e0.mod.nolimit.keeps fun b o e => (e0.bs b o e).1
  obtain ⟨⟨a, C, ws, rfl, T, U, ea⟩, t, ht, hq⟩ := hbody A outer s H vs Q E hsp
  obtain ⟨cl, cld, csl, hcell⟩ := U.cell
  have CA : NdefX.CellsAt [(("__class__" : Str), cc)] ["__class__"] [none] s.heap H := ⟨rfl, fun y c' e => by
      have e' := PySem.mem_of_lookup e
      rw [List.mem_singleton] at e'
      injection e' with e1 e2
      subst e2
      exact ⟨(e0.bs _ _ (e0.mod.kin _ _ hcell)).2, _, _, KX _ _ hcell, rfl⟩, fun x y c' h1 h2 => by
      have e1 := PySem.mem_of_lookup h1
      have e2 := PySem.mem_of_lookup h2
      rw [List.mem_singleton] at e1 e2
      injection e1 with e1 _
      injection e2 with e2 _
      rw [e1, e2], fun i y h => by
      have : y = ("__class__" : Str) := by
        have := List.mem_of_getElem? h
        simpa using this
      subst this
      exact ⟨cc, by simp [List.lookup], fun v hv => by
        cases i with
        | zero => simp at hv
        | succ i => simp at hv⟩⟩
  refine ks_codeAny_call_defAt (binds := ps.zip us) hr.depth (KX _ _ lk) rfl lim (PySem.W.codeRec_of KX hcd) rfl hb S.nocell (fun ⟨n, _⟩ hy => S.par n (List.of_mem_zip hy).1) (fun h₁ hns kp => ?_) S.co S.gen S.kind
  have I : Inv (NdefX.ncx CX P w K mg base N ⟨name, qual, params, rest, scope, [("__class__", cc)], c⟩ f A outer s H E) [] (NdefX.startF N (.ref a :: ws) [none]) H { s with heap := h₁, toks := s.toks + (ps.zip us).length } := NdefX.inv_startN S hr.hd e0 hl r CA hns kp
  obtain ⟨pl, he⟩ := he (NdefX.ncx CX P w K mg base N ⟨name, qual, params, rest, scope, [("__class__", cc)], c⟩ f A outer s H E).env
  refine ks_wpAt_execs_cons ?_
  refine sup_step (X := NdefX.ncx CX P w K mg base N ⟨name, qual, params, rest, scope, [("__class__", cc)], c⟩ f A outer s H E) T U I hks (S.frk _ (List.mem_singleton.mpr rfl)) rfl rfl (by show List.lookup ("__class__" : Str) [(("__class__" : Str), cc)] = some cc; simp [List.lookup]) hm lk hp hN hka (by rfl) ea (by show (scope.kind == ScopeKind.module && _) = false; rw [S.kind]; rfl) he fun s' J => ?_
  refine wpAt_of_wpAny (wpAny_mono (ht.run [] s' _ H _ J hq) (fun fl s'' hs => ?_) fun e s' hs => hs)
  have fin : ∀ {σ' : L2.St} {H' : Hp} {v : V} {u : Value}, Inv (NdefX.ncx CX P w K mg base N ⟨name, qual, params, rest, scope, [("__class__", cc)], c⟩ f A outer s H E) [] σ' H' s'' → L2.RelV v u → Q v H' → CE outer P w H s Q u s'' :=
    fun {σ' H' v u} J rv q => ⟨v, H', J.os, J.bare, J.base, J.hok, rv, q⟩
  cases fl with
  | ret u =>
    obtain ⟨v, σ', H', J, rv, q⟩ := hs
    exact fin J rv q
  | next =>
    obtain ⟨σ', H', J, q⟩ := hs
    exact fin (v := V.non) (u := Value.none) J rfl q
  | brk =>
    obtain ⟨_, _, _, q⟩ := hs
    exact False.elim q
  | cont =>
    obtain ⟨_, _, _, q⟩ := hs
    exact False.elim q
end WP

set_option Elab.async false
set_option linter.all false
set_option maxRecDepth 100000
set_option maxHeartbeats 4000000
namespace WP
open PySem PySem.Spec PyProof.Rows L2
/-! ### what the head tells of an own exception class over ValueError whose __init__ says super().__init__ -/
/-- the class's name, its __init__'s qualified name, the def -/
structure ExD where
  x : Str
  qual : Str
  st : Stmt
abbrev InW : Type := Option (Str × Str × Arguments × FuncBody × Scope × Addr × List Str × Addr)
def inW (K : PySem.W.Frag) (x : Str) : InW := match K.lookup (He.fAd K (x, some "__init__")) with
  | some ⟨_, _, .func fd, _⟩ => some (fd.name, fd.qualname, fd.params, fd.body, fd.scope, fd.globals, fd.closure.map (·.1), fd.builtins)
  | _ => none
def ExD.val (d : ExD) : InW := some ("__init__", d.qual, defArgs d.st, .stmts (defBody d.st), defScope d.st, mainGlobals, ["__class__"], builtinsNs)
def supB (P : Program) (K : PySem.W.Frag) (C fI : Addr) (qual : Str) : Bool := match K.lookup fI with
  | some ⟨_, _, .func fd, _⟩ => (match fd.code, fd.closure, fd.defaults with
    | .ref c, [(_, cc)], .none => PySem.W.codeIn K (.ref c) qual && ((match K.lookup c with
        | some ⟨_, _, .fields vs, _⟩ => (match vs[2]? with
          | some (Value.str file _) => P.main.file == file
          | _ => false)
        | _ => false) && (match K.lookup cc with
        | some ⟨_, _, .cell (some (.ref D)), _⟩ => decide (D = C)
        | _ => false))
    | _, _, _ => false)
  | _ => false
def oexB (K : PySem.W.Frag) (C : Addr) : Bool := match K.lookup C with
  | some ⟨.type t, _, .cls ⟨_, _, .ref c :: bm, _, _, true, _, _, _, _, false⟩, ⟨[_, _, _, _, some (.builtin n), _]⟩⟩ => decide (t = "type") && (decide (c = C) && (PySem.HandSPX.refsVE bm && decide (n = "ValueError.__new__")))
  | _ => false
def excB (P : Program) (K : PySem.W.Frag) (d : ExD) : Bool :=
  supB P K (He.ga K d.x) (He.ma K (He.ga K d.x) "__init__") d.qual && (oexB K (He.ga K d.x) && (He.eqO (PySem.W.findIn K (.ref (He.ga K d.x)) "__setattr__") (some (some (.builtin "object.__setattr__"))) && (decide (PySem.W.typeIn K (.ref (He.ga K d.x)) = some (.type "type")) && (PySem.W.keepIn K (.ref (He.ga K d.x)) &&
    (He.eqO (PySem.W.findIn K (.ref (He.ga K d.x)) "__init__") (some (some (.ref (He.ma K (He.ga K d.x) "__init__")))) && (decide (PySem.W.typeIn K (.ref (He.ma K (He.ga K d.x) "__init__")) = some (.type "function")) && (decide (PySem.W.mroIn K (He.ga K d.x) (.ref (He.ga K d.x)) = some true) &&
    (He.eqO (PySem.W.ks_superIn K (He.ga K d.x) (He.ga K d.x) "__init__") (some (some (.builtin "ValueError.__init__"))) && (decide (PySem.W.subIn K (.ref (He.ga K d.x)) (.type "ValueError") = some true) && (He.eqO (PySem.W.nsIn K cStatics "thirdparty.any") (some none) && (xfB K (He.ga K d.x) && He.eqO (PySem.W.nsIn K mainGlobals d.x) (some (some (.ref (He.ga K d.x)))))))))))))))
theorem oexB_ok {K : PySem.W.Frag} {C : Addr} (h : oexB K C = true) : ∃ nm q N bs bm sn sub ab col dd k0 k1 k2 k3 k5, K.lookup C = some (excClassObj nm q C N bs bm true sn sub ab col dd k0 k1 k2 k3 k5 "ValueError.__new__") ∧ PySem.HandSPX.refsVE bm = true := by
  unfold oexB at h
  split at h
  · rename_i t dd nm bs c bm N q sn sub ab col k0 k1 k2 k3 n k5 e
    obtain ⟨h1, h⟩ := Bool.and_eq_true_iff.mp h
    obtain ⟨h2, h⟩ := Bool.and_eq_true_iff.mp h
    obtain ⟨h3, h4⟩ := Bool.and_eq_true_iff.mp h
    have h1 := of_decide_eq_true h1
    have h2 := of_decide_eq_true h2
    have h4 := of_decide_eq_true h4
    subst h1 h2 h4
    exact ⟨nm, q, N, bs, bm, sn, sub, ab, col, dd, k0, k1, k2, k3, k5, e, h3⟩
  · cases h
/-- what the written part says of such a class at C, its __init__ at f -/
structure ExcT (P : Program) (K : PySem.W.Frag) (mg : Str → Option Value) (x qual : Str) (st : Stmt) (C f : Addr) : Prop where
  gC : mg x = some (.ref C)
  T : OexC K C
  xf : XfC K C
  iC : PySem.W.findIn K (.ref C) "__init__" = some (some (.ref f))
  tI : PySem.W.typeIn K (.ref f) = some (.type "function")
  fn : ∃ (oc : Value) (od : Option Addr) (kV doc pm : Value) (an : Option Addr) (c cc : Addr) (ct : Value) (osl : Array (Option Value)),
    K.lookup f = some ⟨oc, od, .func (PySem.W.fnX "__init__" qual (defArgs st) (defBody st) (defScope st) [("__class__", cc)] .none kV doc pm an (.ref c) ct), osl⟩ ∧ PySem.W.codeIn K (.ref c) qual = true ∧ SupIn P K "ValueError" "ValueError.__init__" C C c cc
theorem excT_of {P : Program} {K : PySem.W.Frag} {mg : Str → Option Value} {h : Heap} {d : ExD} (X : K.In h) (G : h.Ns mainGlobals mg) (e : inW K d.x = d.val) (b : excB P K d = true) (htop : (P.main.scope.names.lookup ("super" : Str)).isSome = false) :
    ExcT P K mg d.x d.qual d.st (He.ga K d.x) (He.ma K (He.ga K d.x) "__init__") := by
  unfold excB at b
  obtain ⟨b1, b⟩ := Bool.and_eq_true_iff.mp b
  obtain ⟨b2, b⟩ := Bool.and_eq_true_iff.mp b
  obtain ⟨b3, b⟩ := Bool.and_eq_true_iff.mp b
  obtain ⟨b4, b⟩ := Bool.and_eq_true_iff.mp b
  obtain ⟨b5, b⟩ := Bool.and_eq_true_iff.mp b
  obtain ⟨b6, b⟩ := Bool.and_eq_true_iff.mp b
  obtain ⟨b7, b⟩ := Bool.and_eq_true_iff.mp b
  obtain ⟨b8, b⟩ := Bool.and_eq_true_iff.mp b
  obtain ⟨b9, b⟩ := Bool.and_eq_true_iff.mp b
  obtain ⟨b10, b⟩ := Bool.and_eq_true_iff.mp b
  obtain ⟨b11, b⟩ := Bool.and_eq_true_iff.mp b
  obtain ⟨b12, b13⟩ := Bool.and_eq_true_iff.mp b
  have xf := xfB_ok b12
  refine ⟨PySem.W.mg_of X G (He.eqO_ok b13), ⟨oexB_ok b2, He.eqO_ok b3, xf.exC, of_decide_eq_true b4, b5⟩, xf, He.eqO_ok b6, of_decide_eq_true b7, ?_⟩
  have oex := oexB_ok b2
  unfold supB at b1
  unfold inW at e
  have ef : He.fAd K (d.x, some "__init__") = He.ma K (He.ga K d.x) "__init__" := rfl
  rw [ef] at e
  cases q : K.lookup (He.ma K (He.ga K d.x) "__init__") with
  | none =>
    rw [q] at b1
    cases b1
  | some o =>
    obtain ⟨oc, od, dt, osl⟩ := o
    rw [q] at b1 e
    cases dt with
    | func fd =>
      obtain ⟨n1, n2, n3, n4, n5, n6, n7, n8, n9, n10, n11, n12, n13, n14, n15⟩ := fd
      have e2 : (some (n1, n2, n3, n4, n5, n6, n7.map (·.1), n15) : InW) = some (("__init__" : Str), d.qual, defArgs d.st, FuncBody.stmts (defBody d.st), defScope d.st, mainGlobals, [("__class__" : Str)], builtinsNs) := e
      simp only [Option.some.injEq, Prod.mk.injEq] at e2
      obtain ⟨h1, h2, h3, h4, h5, h6, h7, h8⟩ := e2
      subst h1 h2 h3 h4 h5 h6 h8
      dsimp only at b1
      split at b1
      · rename_i c nmc cc
        obtain ⟨c1, c2⟩ := Bool.and_eq_true_iff.mp b1
        obtain ⟨c2, c3⟩ := Bool.and_eq_true_iff.mp c2
        have h7 : [nmc] = [("__class__" : Str)] := h7
        injection h7 with h7 _
        subst h7
        refine ⟨oc, od, n9, n10, n11, n12, c, cc, n14, osl, rfl, c1, ?_, ?_, ?_, of_decide_eq_true b8, He.eqO_ok b9, of_decide_eq_true b10, He.eqO_ok b11, htop⟩
        · split at c2
          · rename_i ccl cdd vs ccs hc
            split at c2
            · rename_i file tf hv
              exact ⟨ccl, cdd, vs, ccs, file, tf, hc, hv, c2⟩
            · cases c2
          · cases c2
        · split at c3
          · rename_i cl cld D csl hc
            have := of_decide_eq_true c3
            subst this
            exact ⟨cl, cld, csl, hc⟩
          · cases c3
        · obtain ⟨nm, q, N, bs, bm, sn, sub, ab, col, dd, k0, k1, k2, k3, k5, hC, hbm⟩ := oex
          exact ⟨_, by unfold PySem.W.clsIn; rw [hC] <;> rfl⟩
      · cases b1
    | _ => cases b1
/-! ### the hook -/
abbrev AlE : Type := He.AlD × List InW × Bool
def obsE2 (n : Nat) (fa : List He.Fa) (fn : List He.DefD) (xs : List ExD) (ex : PySem.W.Frag → Bool) (g : Addr → Option Obj) : AlE := (He.obsD fa fn (He.frG g (cStatics :: He.asD g n)), xs.map (fun d => inW (He.frG g (cStatics :: He.asD g n)) d.x), ex (He.frG g (cStatics :: He.asD g n)))
def hookE2 (n : Nat) (fa : List He.Fa) (fn : List He.DefD) (xs : List ExD) (ex : PySem.W.Frag → Bool) : PySem.W.Hook where
  α := AlE
  obs := fun s => obsE2 n fa fn xs ex s.heap.get?
  val := fun _ => (He.valD fn, xs.map ExD.val, true)
  says := fun _ h => ∃ K : PySem.W.Frag, K.In h ∧ He.SaysD fa fn K ∧ xs.map (fun d => inW K d.x) = xs.map ExD.val ∧ ex K = true
  of := fun _ _ e => ⟨_, He.frG_in, congrArg (fun z : AlE => z.1) e, congrArg (fun z : AlE => z.2.1) e, congrArg (fun z : AlE => z.2.2) e⟩
  keeps := fun _ _ _ ⟨K, hK, c⟩ k => ⟨K, PySem.W.Frag.In.keeps hK k, c⟩
theorem obsE2_eq {n : Nat} {fa : List He.Fa} {fn : List He.DefD} {xs : List ExD} {ex : PySem.W.Frag → Bool} {g : Addr → Option Obj} {s : Shared} (h : ∀ a, g a = s.heap.get? a) : obsE2 n fa fn xs ex g = (hookE2 n fa fn xs ex).obs s := by
  have e : g = s.heap.get? := funext h
  subst e
  rfl
theorem inW_at {K : PySem.W.Frag} {xs : List ExD} (h : xs.map (fun d => inW K d.x) = xs.map ExD.val) (i : Nat) {d : ExD} (hd : xs[i]? = some d := by rfl) : inW K d.x = d.val := by
  have := congrArg (fun l => l[i]?) h
  simp only [List.getElem?_map, hd] at this
  exact Option.some.inj this
/-! ### C(v): an exception with one field -/
def spInit1 (f : Str) (K : PySem.W.Frag) (C : Addr) : Sp := fun vs H Q _ => ∃ (a : Addr) (v : V), vs = [.ref a, v] ∧ H a = some (exo a C none) ∧ ∀ dx, H dx = none → dx ≠ a → Q .non (upd (upd H dx (exd dx [(f, v)])) a (exo a C (some dx)))
def tMk1 (C : Addr) (f : Str) (ta : TA) : L2.St → Hp → XK → Prop := fun σ H Q => ta σ H fun vs H1 => ∃ v, vs = [v] ∧ ∀ d, H1 d = none → Q (.ref C) (some d) (upd H1 d (.xd [(f, v)]))
theorem mk1_imp {C : Addr} {f : Str} {K : PySem.W.Frag} {ta : TA} (mono : ∀ σ H Q Q', (∀ vs H', Q vs H' → Q' vs H') → ta σ H Q → ta σ H Q') {σ : L2.St} {H : Hp} {Q : XK} (h : tMk1 C f ta σ H Q) : tMkO C (spInit1 f K C) [] ta σ H Q := by
  refine mono _ _ _ _ (fun vs H1 q => ?_) h
  obtain ⟨v, rfl, q⟩ := q
  refine ⟨by simp, fun a ha => ⟨a, v, rfl, upd_same, fun dx hdx hne => ?_⟩⟩
  rw [upd_ne hne] at hdx
  refine ⟨rfl, dx, [(f, v)], upd_same, by rw [upd_ne hne, upd_same], hdx, ?_⟩
  have e : upd (del (upd (upd (upd H1 a (exo a C none)) dx (exd dx [(f, v)])) a (exo a C (some dx))) a) dx (.xd [(f, v)]) = upd H1 dx (.xd [(f, v)]) := by
    funext b
    by_cases hb : b = dx
    · subst hb
      rw [upd_same, upd_same]
    · rw [upd_ne hb, upd_ne hb]
      by_cases hba : b = a
      · subst hba
        rw [del_same, ha]
      · rw [del_ne hba, upd_ne hba, upd_ne hb, upd_ne hba]
  rw [e]
  exact q dx hdx
end WP

set_option Elab.async false
set_option linter.all false
set_option maxRecDepth 100000
set_option maxHeartbeats 4000000
/-! enumerate(tuple), enumerate(list or tuple): proved anew (session 3) from enum1_new, with Draws.tuple and the turn's own state -/
namespace WP
open PySem PySem.Spec PyProof.Rows L2
/-- enumerate(v) of whatever pyIter begins: the iterator o is laid, then the enumerate object behind it, its count at 0 -/
theorem enum1_new {v : Value} {o : Obj} {Z : Heap → Prop} (B : Begins v o Z) : Meets (Builtin.«enumerate.__new__» ⟨[.type "enumerate", v], []⟩) fun _ R s =>
    Z s.heap ∧ R (.ok (.ret (.ref (s.heap.objs.size + 1)))) { s with heap := (s.heap.push o).push { cls := .type "enumerate", data := .fields #[.none, .bool false, .ref s.heap.objs.size, rawInt 0, .none, .none] } } := by
  refine .of_wp fun prog w A R s ⟨hz, h⟩ => ?_
  have sub := sub_enumerate
  obtain ⟨hp, g, d, tk, os⟩ := s
  have go : ∀ (A : Around) (E : Value → Shared → Prop) (Q : Value → Shared → Prop), Q (.ref hp.objs.size) ⟨hp.push o, g, d, tk, os⟩ → wpAny (model prog w) A (pyIter v) Q E ⟨hp, g, d, tk, os⟩ := fun A E Q q => B.iter prog w A E _ Q hz q
  wp_walk using go
  refine wpAny_stack fun fs _ _ _ => ?_
  refine wpAny_pure ?_
  have last : R (.ok (.ret (.ref (hp.push o).objs.size))) ⟨(hp.push o).push { cls := .type "enumerate", data := .fields #[.none, .bool false, .ref hp.objs.size, rawInt 0, .none, .none] }, g, d, tk, os⟩ := by
    rw [Heap.size_push]
    exact h
  split
  · wp_walk using go
    split
    all_goals (wp_walk using go)
    all_goals exact ⟨_, rfl, last⟩
  · wp_walk using go
    exact ⟨_, rfl, last⟩
/-- the call itself -/
theorem enum1_call {prog : Program} {w : World} {A : Around} {E : Value → Shared → Prop} {s : Shared} {v : Value} {o : Obj} {Z : Heap → Prop} {Q : Value → Shared → Prop} (B : Begins v o Z) (hz : Z s.heap)
    (h : ∀ h', IsEnum h' (s.heap.objs.size + 1) s.heap.objs.size 0 .none → h'.get? s.heap.objs.size = some o → (∀ b u, s.heap.get? b = some u → h'.get? b = some u) → Q (.ref (s.heap.objs.size + 1)) { s with heap := h' }) :
    wpAny (model prog w) A (call (.type "enumerate") [v]) Q E s := by
  refine callType_new F.called_enumerate (by decide) (F.typeCall_enumerate_1 v) (F.newCall_enumerate_1 v) (fun x => F.args_object_init_2 x v) F.entry_enumerate_new (enum1_new B) ⟨hz, ?_⟩
  have e0 : ((s.heap.push o).push { cls := .type "enumerate", data := .fields #[.none, .bool false, .ref s.heap.objs.size, rawInt 0, .none, .none] }).get? (s.heap.objs.size + 1) = some { cls := .type "enumerate", data := .fields #[.none, .bool false, .ref s.heap.objs.size, rawInt 0, .none, .none] } := by
    rw [← Heap.size_push s.heap o]
    exact Heap.get?_push_size _ rfl
  exact ⟨⟨_, e0, rfl⟩, h _ e0 (Heap.get?_push_of_some _ (Heap.get?_push_size _ B.free)) fun b u e => Heap.get?_push_of_some _ (Heap.get?_push_of_some _ e)⟩
/-- enumerate over the tuple at a: a new pair for each item -/
def IteT (K : PySem.W.Frag) (a : Addr) : It where
  go i H := ∃ xs x, SqT K H a xs ∧ xs[i]? = some x
  yld i H v H' := ∃ T x, v = .ref T ∧ H T = none ∧ H' = upd H T (.tup [.int (i : Nat), x]) ∧ ∀ xs, SqT K H a xs → xs[i]? = some x
  stop i H := ∃ xs, SqT K H a xs ∧ xs.length ≤ i
/-- how the two iterators stand before item i -/
structure EnT (a e it : Addr) (i : Nat) (h : Heap) : Prop where
  en : ∃ old, IsEnum h e it ((i : Nat) : Int) old
  at_ : h.IsTupleIter it a i
  ne : e ≠ it
  nea : e ≠ a
  nai : a ≠ it
theorem tup_items {X : Cx} {pins : List (Addr × Obj)} {σ : L2.St} {H : Hp} {s : Shared} {a : Addr} {xs : List V} (I : Inv X pins σ H s) (q : SqT X.K H a xs) : ∃ its : List Value, Vals xs its ∧ s.heap.IsTuple a its.toArray := by
  obtain ⟨its, o, n, r, ho, hc, hd⟩ := sqT_at I.hok I.kIn q
  exact ⟨its, r, ⟨o, ho, hc, n, hd⟩⟩
/-- a tuple's iterator that has come to the tuple's end draws nothing -/
theorem spent {prog : Program} {w : World} {A : Around} {it a : Addr} {items : Array Value} {i : Nat} (hh : A.handled = none) (ne : a ≠ it) (hi : items.size ≤ i) :
    Draws prog w A it [it, a] i (fun _ _ => True) fun j h => j = i ∧ h.IsTupleIter it a i ∧ h.IsTuple a items := by
  constructor
  · rintro j h ⟨_, ⟨o, z, _⟩, _⟩
    exact ⟨o, z⟩
  · rintro j h h' ⟨rfl, x, y⟩ hk
    exact ⟨rfl, x.at fun o z => hk it (by simp) o z, y.at fun o z => hk a (by simp) o z⟩
  · rintro j s Q E hj ⟨rfl, _⟩
    exact absurd hj (Nat.lt_irrefl _)
  · rintro s Q E ⟨_, x, y⟩ hE
    exact wpAny_nextOf_tuple_end hh x y (Array.getElem?_eq_none hi) hE
theorem turn_enumT {P : Program} {w : World} {K : PySem.W.Frag} {elts : List Expr} {kk : Nat} {tpos : Pos} (a e it : Addr) : Turn P w K (.Tuple elts kk tpos) (IteT K a) [e, it] e (EnT a e it) := by
  constructor
  · simp
  · intro i h ⟨⟨old, he⟩, ⟨oi, hi, _, hd⟩, _, _, _⟩ b hb
    simp only [List.mem_cons, List.not_mem_nil, or_false] at hb
    rcases hb with rfl | rfl
    · exact ⟨_, he, fun v z => by cases z⟩
    · exact ⟨oi, hi, fun v z => by rw [hd] at z; cases z⟩
  · intro i h h' ⟨⟨old, he⟩, ha, n1, n2, n3⟩ hk
    exact ⟨⟨old, hk e (by simp) _ he⟩, ha.at fun o z => hk it (by simp) o z, n1, n2, n3⟩
  · intro X eP ew eK calm i pins s σ H E I fp tn ⟨xs, x, q, hx⟩
    subst eP ew eK
    obtain ⟨⟨old, he⟩, ha, n1, n2, n3⟩ := tn
    obtain ⟨its, r, ht⟩ := tup_items I q
    have hlen : its.length = xs.length := r.length.symm
    have hi : i < its.toArray.size := by
      have := (List.getElem?_eq_some_iff.mp hx).1
      simp
      omega
    refine wpAny_pyNext_enum_itemD (Draws.tuple (A := X.A.in1) (I.ok.hd calm) it a n3 its.toArray) he ⟨ha, ht⟩ hi n1 (by simp [n1, n2]) fun u h' tk hu out st' hT _ hk => ⟨.ref s.heap.objs.size, rfl, ?_⟩
    have ru : RelV x u := by
      obtain ⟨u', e1, r1⟩ := r.get hx
      have e2 : its[i]? = some u := by simpa using hu
      rw [e1] at e2
      cases e2
      exact r1
    refine wpAny_letOwnedTupleGo_enum out fun h2 he2 sb => ?_
    have nT : H s.heap.objs.size = none := I.hok.fresh (Nat.le_refl _)
    have lt : e < s.heap.objs.size ∧ it < s.heap.objs.size := ⟨Heap.lt_size he, let ⟨_, z, _⟩ := ha; Heap.lt_size z⟩
    have hT2 : h2.get? s.heap.objs.size = some { cls := .type "tuple", data := .seq #[.int i tk, u] } := (sb.2 _ (Nat.ne_of_gt lt.1)).trans hT
    have J : Inv X pins σ (upd H s.heap.objs.size (.tup [.int (i : Nat), x])) { s with heap := h2, toks := tk + 1 } := by
      refine I.turnedNew (ch := [e, it]) (fun b o hb z => ?_) fp (Nat.le_refl _) ⟨by show 2 ≤ sizeLine; decide, [.int i tk, u], .cons ⟨tk, rfl⟩ (.cons ru .nil), ⟨_, hT2, rfl, 0, rfl⟩⟩
      simp only [List.mem_cons, List.not_mem_nil, or_false, not_or] at hb
      exact (sb.2 b hb.1).trans (hk b o hb.1 hb.2 z)
    refine ⟨.ref s.heap.objs.size, _, J, rfl, ⟨_, x, rfl, nT, rfl, fun ys q' => ?_⟩, ⟨⟨_, by exact_mod_cast he2⟩, ?_, n1, n2, n3⟩, fun b hb => ?_⟩
    · obtain ⟨its', r', ht'⟩ := tup_items I q'
      obtain ⟨o1, g1, _, m1, d1⟩ := ht
      obtain ⟨o2, g2, _, m2, d2⟩ := ht'
      rw [g1] at g2
      cases g2
      rw [d1] at d2
      have ee : its = its' := by
        injection d2 with d2 _
        simpa using congrArg Array.toList d2
      subst ee
      rw [← r.inj r']
      exact hx
    · exact st'.1.at fun o z => (sb.2 it (Ne.symm n1)).trans z
    · have := fp b hb
      rw [upd_ne]
      · exact this.1
      · simp only [List.mem_cons, List.not_mem_nil, or_false] at hb
        rcases hb with rfl | rfl
        · exact Nat.ne_of_lt lt.1
        · exact Nat.ne_of_lt lt.2
  · intro X eP ew eK calm i pins s σ H E I fp tn ⟨xs, q, hx⟩
    subst eP ew eK
    obtain ⟨⟨old, he⟩, ha, n1, n2, n3⟩ := tn
    obtain ⟨its, r, ht⟩ := tup_items I q
    have hlen : its.toArray.size ≤ i := by
      have := r.length
      simp
      omega
    refine wpAny_pyNext_enum_endD (spent (A := X.A.in1) (I.ok.hd calm) n3 hlen) he ⟨rfl, ha, ht⟩ fun h' k => ⟨rfl, ?_⟩
    have hit := fp it (by simp)
    exact I.turned (t' := s.toks) k hit.1 hit.2.1 hit.2.2.2.1 hit.2.2.2.2.1 hit.2.2.2.2.2
  · intro A i s Q E ⟨⟨old, he⟩, _, _, _, _⟩ hq
    exact wpAny_pyIter_enum he hq
/-- enumerate(v) as what a loop goes over: its two iterators are new, so they may turn -/
theorem enum_pie {X : Cx} {pins : List (Addr × Obj)} {σ : L2.St} {H : Hp} {s : Shared} {tg : Expr} {R : It → Hp → Prop} {v : Value} {o : Obj} {Z : Heap → Prop} {J : It} {tn : Addr → Addr → Nat → Heap → Prop} (I : Inv X pins σ H s) (B : Begins v o Z) (hz : Z s.heap)
    (T : ∀ e it, Turn X.prog X.w X.K tg J [e, it] e (tn e it)) (st : ∀ h', IsEnum h' (s.heap.objs.size + 1) s.heap.objs.size 0 .none → h'.get? s.heap.objs.size = some o → tn (s.heap.objs.size + 1) s.heap.objs.size 0 h') (q : R J H) :
    wpAny (model X.prog X.w) X.A (call (.type "enumerate") [v]) (fun u s1 => wpAny (model X.prog X.w) X.A (pyIter u) (PIE X pins σ tg R) X.xe s1) X.xe s := by
  refine enum1_call B hz fun h' he hi hk => wpAny_pyIter_enum he ?_
  have young : ∀ b ∈ [s.heap.objs.size + 1, s.heap.objs.size], s.heap.objs.size ≤ b := by
    intro b hb
    simp only [List.mem_cons, List.not_mem_nil, or_false] at hb
    omega
  exact ⟨_, _, _, J, H, rfl, I.kept (t' := s.toks) hk, T _ _, st h' he hi, fun b hb => I.fpOk (young b hb) (I.hok.fresh (young b hb)), q⟩
/-- the iterable enumerate(e), e a tuple or a list -/
def iEnumA (K : PySem.W.Frag) (ta : TA) : TI := fun σ H R => ta σ H fun vs H1 => ∃ a xs, vs = [.ref a] ∧ ((SqT K H1 a xs ∧ R (IteT K a) H1) ∨ (SqL K H1 a xs ∧ R (Ite K a) H1))
theorem pi_enumA {X : Cx} (K : PySem.W.Frag) {e : Expr} {ta : TA} {p pos tpos : Pos} {elts : List Expr} {kk : Nat} (hg : Gl X "enumerate") (hm : X.mg "enumerate" = none) (ha : PA X [e] ta) (hK : X.K = K := by rfl)
    (hs : starEach [e] X.env = [(false, eval e X.env)] := by rfl) : PI X (.Tuple elts kk tpos) (.Call (.Name "enumerate" p) [e] [] pos) (iEnumA K ta) := by
  subst hK
  constructor
  intro pins s σ H R I h
  refine Call_ (ld_blt I hg hm boot_enumerate (PyProof.Rows.callWith_type1 (thn (ha.run pos pins s σ H _ I h) ?_) hs rfl))
  rintro us s1 ⟨vs, H1, J1, r, a, xs, rfl, both⟩
  obtain rfl := r.ref1
  rcases both with ⟨q, hR⟩ | ⟨q, hR⟩
  · obtain ⟨its, _, ht⟩ := tup_items J1 q
    have la : a < s1.heap.objs.size := let ⟨_, z, _⟩ := ht; Heap.lt_size z
    refine enum_pie J1 (begins_tuple a its.toArray) ht (fun e it => turn_enumT a e it) (fun h' he hi => ?_) hR
    exact ⟨⟨_, he⟩, ⟨_, hi, rfl, rfl⟩, Nat.succ_ne_self _, Nat.ne_of_gt (Nat.lt_succ_of_lt la), Nat.ne_of_lt la⟩
  · obtain ⟨its, o, n, _, ho, hc, hd⟩ := sqL_at J1.hok J1.kIn q
    refine enum_pie J1 (begins_list a its.toArray) ⟨o, ho, hc, n, hd⟩ (fun e it => turn_enum a e it) (fun h' he hi => ?_) hR
    exact ⟨⟨_, he⟩, ⟨_, hi, rfl, rfl⟩, Nat.succ_ne_self _⟩
/-- what item i of an enumerate over xs gives -/
def YEn (xs : List V) (i : Nat) (H : Hp) (v : V) (H' : Hp) : Prop := ∃ T x, v = .ref T ∧ H T = none ∧ H' = upd H T (.tup [.int (i : Nat), x]) ∧ xs[i]? = some x
theorem walk_enumT {K : PySem.W.Frag} {a : Addr} {xs : List V} : L2.Walk (IteT K a) xs.length (fun H => SqT K H a xs) (YEn xs) where
  goes i _ hi q := ⟨xs, xs[i], q, List.getElem?_eq_getElem hi⟩
  stops _ q := ⟨xs, q, Nat.le_refl _⟩
  yields := by
    rintro i H v H' _ q ⟨T, x, e1, e2, e3, k⟩
    exact ⟨T, x, e1, e2, e3, k xs q⟩
theorem walk_enumL {K : PySem.W.Frag} {a : Addr} {xs : List V} : L2.Walk (Ite K a) xs.length (fun H => SqL K H a xs) (YEn xs) where
  goes i _ hi q := ⟨xs, xs[i], q, List.getElem?_eq_getElem hi⟩
  stops _ q := ⟨xs, q, Nat.le_refl _⟩
  yields := by
    rintro i H v H' _ q ⟨T, x, e1, e2, e3, k⟩
    exact ⟨T, x, e1, e2, e3, k xs q⟩
theorem r_enumA {K : PySem.W.Frag} {ta : TA} {σ : L2.St} {H : Hp} {R : It → Hp → Prop} (q : ta σ H fun vs H1 => ∃ a xs, vs = [.ref a] ∧ ((SqT K H1 a xs ∧ R (IteT K a) H1) ∨ (SqL K H1 a xs ∧ R (Ite K a) H1))) : iEnumA K ta σ H R := q
end WP

set_option Elab.async false
set_option linter.all false
set_option maxRecDepth 100000
set_option maxHeartbeats 4000000
namespace WP
open PySem PySem.Spec PyProof.Rows L2
/-! ### raise -/
theorem r_mkO {C : Addr} {sp : Sp} {dvs : List V} {ta : TA} {σ : L2.St} {H : Hp} {Q : XK} (q : ta σ H fun vs H1 => vs.length ≤ 1000 ∧ ∀ a, H1 a = none → sp (.ref a :: (vs ++ dvs)) (upd H1 a (exo a C none))
  (fun v H2 => v = .non ∧ ∃ (d : Addr) (fs : List (Str × V)), H2 a = some (exo a C (some d)) ∧ H2 d = some (exd d fs) ∧ H1 d = none ∧ Q (.ref C) (some d) (upd (del H2 a) d (.xd fs))) (fun _ _ _ => False)) : tMkO C sp dvs ta σ H Q := q
def tRaise (t : L2.St → Hp → XK → Prop) (W : WX) : TS := fun _ σ H => t σ H fun cls d H' => W cls d σ H'
theorem r_raise {t : L2.St → Hp → XK → Prop} {W : WX} {D : Ends} {σ : L2.St} {H : Hp} (q : t σ H fun cls d H' => W cls d σ H') : tRaise t W D σ H := q
theorem ps_raiseA {X : Cx} {W : WX} {e : Expr} {t : L2.St → Hp → XK → Prop} {pos : Pos} (hc : X.calm = true) (tk : Takes X W) (he : PMk X e t) : PS X (.Raise (some e) none pos) (tRaise t W) := ps_raise hc tk he
/-- C(v): the exception and its one field -/
theorem mk1 {C : Addr} {f : Str} {K : PySem.W.Frag} {v : V} {H1 : Hp} {Q : XK} (q : ∀ d, H1 d = none → Q (.ref C) (some d) (upd H1 d (.xd [(f, v)]))) : [v].length ≤ 1000 ∧ ∀ a, H1 a = none → spInit1 f K C (.ref a :: ([v] ++ [])) (upd H1 a (exo a C none))
    (fun v H2 => v = .non ∧ ∃ (d : Addr) (fs : List (Str × V)), H2 a = some (exo a C (some d)) ∧ H2 d = some (exd d fs) ∧ H1 d = none ∧ Q (.ref C) (some d) (upd (del H2 a) d (.xd fs))) (fun _ _ _ => False) := by
  refine ⟨by simp, fun a ha => ⟨a, v, rfl, upd_same, fun dx hdx hne => ?_⟩⟩
  rw [upd_ne hne] at hdx
  refine ⟨rfl, dx, [(f, v)], upd_same, by rw [upd_ne hne, upd_same], hdx, ?_⟩
  have e : upd (del (upd (upd (upd H1 a (exo a C none)) dx (exd dx [(f, v)])) a (exo a C (some dx))) a) dx (.xd [(f, v)]) = upd H1 dx (.xd [(f, v)]) := by
    funext b
    by_cases hb : b = dx
    · subst hb
      rw [upd_same, upd_same]
    · rw [upd_ne hb, upd_ne hb]
      by_cases hba : b = a
      · subst hba
        rw [del_same, ha]
      · rw [del_ne hba, upd_ne hba, upd_ne hb, upd_ne hba]
  rw [e]
  exact q dx hdx
/-! ### constants as values -/
def isCnst : V → Bool
  | .non => true
  | .int i => decide (i.natAbs < 10 ^ 30)
  | .str z => isWordS z 8
  | _ => false
theorem cst_of {v : V} (h : isCnst v = true) : Cst v := by
  cases v with
  | non => exact True.intro
  | int i =>
    have h : decide (i.natAbs < 10 ^ 30) = true := h
    have h2 : i.natAbs < 10 ^ 30 := of_decide_eq_true h
    exact h2
  | str z =>
    have h : isWordS z 8 = true := h
    rw [isWordS, Bool.and_eq_true, decide_eq_true_eq, List.all_eq_true] at h
    exact ⟨by omega, fun c hc => small_mem.mp (of_decide_eq_true (h.2 c hc))⟩
  | _ => cases h
/-- the place of the first value that cannot stand -/
def dueFrom : Nat → List V → Option Nat
  | _, [] => none
  | i, v :: r => if i = 3 then some i else if isCnst v then dueFrom (i + 1) r else some i
theorem due_step {vs : List V} {i : Nat} (hi : i < vs.length) : dueFrom i (vs.drop i) = if i = 3 then some i else if isCnst (vs.getD i .non) then dueFrom (i + 1) (vs.drop (i + 1)) else some i := by
  rw [List.drop_eq_getElem_cons hi, List.getD_eq_getElem?_getD, List.getElem?_eq_getElem hi]
  rfl
theorem due_none : ∀ {vs : List V} {i : Nat}, dueFrom i vs = none → i ≤ 3 → (∀ v ∈ vs, isCnst v = true) ∧ i + vs.length ≤ 3
  | [], i, _, h => ⟨fun v hv => by (cases hv), by simpa using h⟩
  | v :: r, i, e, h => by
    unfold dueFrom at e
    split at e
    · cases e
    · split at e
      · rename_i h1 h2
        obtain ⟨a, b⟩ := due_none e (by omega)
        exact ⟨fun u hu => by rcases List.mem_cons.mp hu with rfl | hu; exact h2; exact a u hu, by rw [List.length_cons]; omega⟩
      · cases e
end WP

set_option Elab.async false
set_option linter.all false
set_option maxRecDepth 100000
set_option maxHeartbeats 4000000
namespace WP
open PySem PySem.Spec PyProof.Rows L2
/-! ### an own exception class, called -/
structure CalE (P : Program) (w : World) (K : PySem.W.Frag) (mg : Str → Option Value) (base : Heap) (k : Nat) (x : Str) (C : Addr) (sp : Sp) : Prop where
  ex : ∃ (f : Addr) (fd : FuncData) (ps : List Str), OexC K C ∧ PySem.W.findIn K (.ref C) "__init__" = some (some (.ref f)) ∧ PySem.W.typeIn K (.ref f) = some (.type "function") ∧ FnOk P w K mg base L2.CX0 k f fd ps sp ∧ Binds K fd ps [] ∧ mg x = some (.ref C)
theorem pmk_exc {X : Cx} {k j : Nat} {x : Str} {C : Addr} {sp : Sp} {e : Expr} {es : List Expr} {ta : TA} {p pos : Pos} (c : CalE X.prog X.w X.K X.mg X.base k x C sp) (hr : Room j X.A) (hk : k + 1 ≤ j) (hg : Gl X x) (ha : PA X (e :: es) ta)
    (hdb : (x == ("__debug__" : Str)) = false := by decide) (he : starEach (e :: es) X.env = (false, eval e X.env) :: starEach es X.env := by rfl) (hpl : (backTo pos (starEach es X.env)).any (·.1) = false := by rfl) :
    PMk X (.Call (.Name x p) (e :: es) [] pos) (tMkO C sp [] ta) := by
  obtain ⟨f, fd, ps, T, iC, tI, F, b, m⟩ := c.ex
  exact pmk_oex T iC tI F (hr.mono hk) b .nil L2.pass0 hg m ha hdb he hpl
/-! ### defs that may raise; defs with a star parameter -/
structure CalX (P : Program) (w : World) (K : PySem.W.Frag) (mg : Str → Option Value) (base : Heap) (k : Nat) (x : Str) (sp : Sp) : Prop where
  ex : ∃ (f : Addr) (fd : FuncData) (ps : List Str), FnOk P w K mg base (L2.CX P w) k f fd ps sp ∧ mg x = some (.ref f) ∧ PySem.W.keepIn K (.ref f) = true ∧ Binds K fd ps []
structure CalR (P : Program) (w : World) (K : PySem.W.Frag) (mg : Str → Option Value) (base : Heap) (k : Nat) (x : Str) (sp : Sp) : Prop where
  ex : ∃ (f : Addr), FnR P w K mg base (L2.CX P w) k f sp ∧ mg x = some (.ref f) ∧ PySem.W.keepIn K (.ref f) = true
section
variable {P : Program} {w : World} {K : PySem.W.Frag} {mg : Str → Option Value} {base : Heap}
theorem calX_of {x : Str} {st : Stmt} {N ps : List Str} {k : Nat} {sp : Sp} (F : At K mg x st) (S : FnScope N ps (defScope st)) (len : ∀ vs H Q E, sp vs H Q E → vs.length = ps.length)
    (hb : ∀ (kV doc pm : Value) (an : Option Addr) (cdv ct : Value) (us : List Value), us.length = ps.length → bindArgs (PySem.W.fnOf x x (defArgs st) (defBody st) (defScope st) .none kV doc pm an cdv ct) ⟨us, []⟩ = pure (ps.zip us))
    (hbody : ∀ (f : Addr) (cdv : Value) (A : Around) (outer : List Env) (s : Shared) (H : Hp) (vs : List V) (Q : VK) (E : XK), Room k (A.deeper (envOfC x (defScope st) s.heap.objs.size f cdv)) → sp vs H Q E →
      ∃ t, PSs (cxOf (L2.CX P w) P w K mg base N x (defScope st) f cdv A outer s H E) (defBody st) t ∧ t { nx := fun _ H' => Q .non H', rt := Q } (start N vs) H) : CalX P w K mg base (k + 1) x sp := by
  obtain ⟨f, fd, F, m⟩ := F.ex
  exact ⟨f, fd, ps, F.ok S len fun cdv A outer s H vs Q E hr hsp => hbody f cdv A outer s H vs Q E hr hsp, m, F.kp, F.bindsN hb⟩
theorem calR_of {x : Str} {st : Stmt} {N ps : List Str} {pv : Str} {k : Nat} {sp : Sp} (F : At K mg x st) (S : FnScope N (ps ++ [pv]) (defScope st))
    (hb : ∀ (kV doc pm : Value) (an : Option Addr) (cdv ct : Value) (us rest : List Value), us.length = ps.length → bindArgs (PySem.W.fnOf x x (defArgs st) (defBody st) (defScope st) .none kV doc pm an cdv ct) ⟨us ++ rest, []⟩ = (newTuple rest >>= fun t => pure (ps.zip us ++ [(pv, t)])))
    (hbody : ∀ (f : Addr) (cdv : Value) (A : Around) (outer : List Env) (s : Shared) (H : Hp) (vs : List V) (Q : VK) (E : XK), Room k (A.deeper (envOfC x (defScope st) s.heap.objs.size f cdv)) → sp vs H Q E →
      ∃ t, PSs (cxOf (L2.CX P w) P w K mg base N x (defScope st) f cdv A outer s H E) (defBody st) t ∧ t { nx := fun _ H' => Q .non H', rt := Q } (start N vs) H) :
    CalR P w K mg base (k + 1) x (fun vs H Q E => ∃ ws rest, vs = ws ++ rest ∧ ws.length = ps.length ∧ rest.length ≤ sizeLine ∧ ∀ p, H p = Option.none → sp (ws ++ [V.ref p]) (upd H p (.tup rest)) Q E) := by
  obtain ⟨f, fd, F, m⟩ := F.ex
  obtain ⟨oc, od, dV, kV, doc, pm, an, cdv, ct, osl, rfl, lk, hcd, hD, hK⟩ := F.ex
  rcases hD with ⟨_, rfl⟩ | ⟨e, _⟩
  · exact ⟨f, StX.fn_star lk hcd S StX.cxUp (hb kV doc pm an cdv ct) fun A outer s H vs Q E hr hsp => hbody f cdv A outer s H vs Q E hr hsp, m, F.kp⟩
  · exact absurd rfl e
end
def tCallR (sp : Sp) (E : XK) (t : TA) : TE := fun σ H Q => t σ H fun vs H1 => sp vs H1 Q E
theorem r_callR {sp : Sp} {E : XK} {t : TA} {σ : L2.St} {H : Hp} {Q : VK} (q : t σ H fun vs H1 => sp vs H1 Q E) : tCallR sp E t σ H Q := q
theorem r_callS {sp : Sp} {E : L2.St → XK} {t : TA} {σ : L2.St} {H : Hp} {Q : VK} (q : t σ H fun vs H1 => sp vs H1 Q (E σ)) : tCallS sp E t σ H Q := q
section
variable {X : Cx} {k j : Nat} {x : Str} {sp : Sp} {E : XK} {W : WX} {p pos : Pos} {e : Expr} {es : List Expr} {t : TA}
/-- f(e, ..), f with a star parameter; what it raises is the def's own -/
theorem pe_cR (c : CalR X.prog X.w X.K X.mg X.base k x sp) (hr : Room j X.A) (hk : k ≤ j) (hg : Gl X x) (tk : Takes X (fun cls d _ H => E cls d H)) (ha : PA X (e :: es) t)
    (hdb : (x == ("__debug__" : Str)) = false := by decide) (he : starEach (e :: es) X.env = (false, eval e X.env) :: starEach es X.env := by rfl) (hpl : (backTo pos (starEach es X.env)).any (·.1) = false := by rfl) :
    PE X (.Call (.Name x p) (e :: es) [] pos) (tCallR sp E t) := by
  obtain ⟨f, F, hm, kp⟩ := c.ex
  refine ⟨fun pins s σ H Q I h => ?_⟩
  refine wpAny_Call_Name_kw (ld_glob I hg hm ?_ hdb)
  refine PySem.W.callWith_K (h₀ := X.base) I.ok.mod.kin kp (thn (ha.run pos pins s σ H _ I h) fun us s1 ⟨vs, H1, I1, r, q⟩ => ⟨I1.kIn, ?_⟩) he hpl
  exact wpAny_call (run_fnR F (hr.mono hk) (passes_call tk fun _ _ _ _ h => h) I1 r q)
/-- f(e, ..) within a try -/
theorem pe_cX (c : CalX X.prog X.w X.K X.mg X.base k x sp) (hr : Room j X.A) (hk : k ≤ j) (hg : Gl X x) (tk : Takes X W) (ha : PA X (e :: es) t)
    (hdb : (x == ("__debug__" : Str)) = false := by decide) (he : starEach (e :: es) X.env = (false, eval e X.env) :: starEach es X.env := by rfl) (hpl : (backTo pos (starEach es X.env)).any (·.1) = false := by rfl) :
    PE X (.Call (.Name x p) (e :: es) [] pos) (tCallS sp (WE W) t) := by
  obtain ⟨f, fd, ps, F, hm, kp, b⟩ := c.ex
  exact pe_callS F (hr.mono hk) hg hm kp b (fun σ => passAt tk σ) ha hdb he hpl
end
theorem r_par3 {i j l : Nat} {ta : TA} {D : Ends} {σ : L2.St} {H : Hp} (q : ta σ H fun vs H1 => ∃ u v w, vs = [u, v, w] ∧ D.nx (((σ.set i (some u)).set j (some v)).set l (some w)) H1) : tPar3 i j l ta D σ H := q
end WP

set_option Elab.async false
set_option linter.all false
set_option maxRecDepth 100000
set_option maxHeartbeats 4000000
/-! dict(a written tuple of pairs) -/
namespace WP
open PySem PySem.Spec PyProof.Rows L2
theorem pairs_ofT {X : Cx} {pins : List (Addr × Obj)} {σ : L2.St} {H : Hp} {s : Shared} (I : Inv X pins σ H s) : ∀ {ps : List Addr} {kvs : List (Key × V)}, Paired (fun p kv => SqT X.K H p [kV kv.1, kv.2]) ps kvs →
    ∃ (prs : List (Key × Value)) (us : List (Value × Value)), KV kvs prs ∧ prs.length = ps.length ∧ us.length = ps.length ∧ ∀ (j : Nat) (k v : Value), us[j]? = some (k, v) → ∃ (b : Addr) (q : Key), ps[j]? = some b ∧ prs[j]? = some (q, v) ∧ IsTup s.heap b #[k, v] ∧ keyIs q k = true
  | _, _, .nil => ⟨[], [], .nil, rfl, rfl, fun j k v e => by simp at e⟩
  | _, _, .cons (a := p) (b := kv) h t => by
    obtain ⟨prs, us, r, hl, hl2, hp⟩ := pairs_ofT I t
    obtain ⟨its, rv, ht, _⟩ := I.tuple h
    obtain ⟨u, y, ei, ru, ry⟩ := vals2 rv
    subst ei
    refine ⟨(kv.1, y) :: prs, (u, y) :: us, .cons ⟨rfl, ry⟩ r, by rw [List.length_cons, List.length_cons, hl], by rw [List.length_cons, List.length_cons, hl2], fun j k v e => ?_⟩
    cases j with
    | zero =>
      have e' : (u, y) = (k, v) := Option.some.inj e
      injection e' with e1 e2
      subst e1 e2
      exact ⟨p, kv.1, rfl, rfl, ht, kV_is (P := X.prog) (w := X.w) ru⟩
    | succ j =>
      obtain ⟨b, q, e1, e2, e3, e4⟩ := hp j k v (by simpa using e)
      exact ⟨b, q, by simpa using e1, by simpa using e2, e3, e4⟩
/-- dict(a), a the written tuple of the pairs ps -/
def rDictT (K : PySem.W.Frag) : List V → Hp → VK → Prop := fun xs H Q => ∃ (a : Addr) (o : Obj) (n : Nat) (ps : List Addr) (kvs : List (Key × V)), xs = [.ref a] ∧ K.lookup a = some o ∧ o.cls = .type "tuple" ∧ o.dict = none ∧ o.data = .seq (ps.map Value.ref).toArray n ∧ ps.length ≤ sizeLine ∧
  Paired (fun p kv => SqT K H p [kV kv.1, kv.2]) ps kvs ∧ ∀ p, H p = none → Q (.ref p) (upd H p (.dK (mergeK [] kvs)))
theorem call_dictT {X : Cx} (K : PySem.W.Frag) (hcalm : X.calm = true) (hK : X.K = K := by rfl) : CallR X (.type "dict") (rDictT K) := by
  subst hK
  intro pins s σ H xs us Q I r q
  obtain ⟨a, o, n, ps, kvs, ex, lk, hc, hd, hdat, hz, hp, q⟩ := q
  subst ex
  obtain ⟨u, eu, rx⟩ := vals1 r
  subst eu
  cases rx
  obtain ⟨prs, vs, rel, hl, hl2, hpr⟩ := pairs_ofT I hp
  have ho := I.kIn _ _ lk
  refine PySem.call_dict_pairs (knd := mixKind X.prog X.w) (kvs := prs) (PySem.PairArg.tuple a (ps.map Value.ref).toArray (fun j => ps.getD j 0) vs) (I.ok.hd hcalm) ⟨⟨o, n, ho, hc, hd, hdat⟩, by simp [hl2], fun j k v e => ?_⟩ ⟨by rw [hl, hl2], fun j k v e => ?_⟩ (by rw [hl2]; exact hz) fun h' tk hd' k => ?_
  · obtain ⟨b, q', e1, e2, e3, e4⟩ := hpr j k v e
    refine ⟨by simp [e1], ?_⟩
    have eg : ps.getD j 0 = b := by rw [List.getD_eq_getElem?_getD, e1]; rfl
    show PairAt s.heap (ps.getD j 0) k v
    rw [eg]
    exact .inl e3
  · obtain ⟨b, q', e1, e2, e3, e4⟩ := hpr j k v e
    exact ⟨q', e2, e4⟩
  · have hm : (s.heap.objs.size == sysModules) = false := beq_eq_false_iff_ne.mpr (Nat.ne_of_gt I.big)
    have hlen : (mergeK [] kvs).length ≤ sizeLine := by
      refine Nat.le_trans (length_mergeK kvs []) ?_
      rw [List.length_nil, Nat.zero_add, rel.length, hl]
      exact hz
    exact ⟨.ref s.heap.objs.size, upd H s.heap.objs.size (.dK (mergeK [] kvs)), I.laid (t' := tk) (fun b o e => k b o (by simp) e) (Nat.le_refl _) (show ObjOk X.prog X.w _ _ _ (.dK (mergeK [] kvs)) from ⟨hlen, hm, merged [] prs, KV.merge rel .nil, hd'⟩), rfl, q _ (I.hok.fresh (Nat.le_refl _))⟩
end WP

set_option Elab.async false
set_option linter.all false
set_option maxRecDepth 100000
set_option maxHeartbeats 4000000
/-! own classes: len, in, ==, !=, +, static methods -/
namespace PySem.W
open PySem PySem.Calls PyProof.Rows Builtin
section
variable {prog : Program} {w : World} {A : Around} {E : Value → Shared → Prop} {s : Shared} {K : Frag} {x C f : Addr} {ox : Obj} {od : Option Obj} {b tb : Value}
/-- a slot of an own instance that a built-in fills is called as that built-in -/
theorem slot_builtin {M : Model} {name : Str} {id : String} {args : List Value} {Q : Option Value → Shared → Prop} (X : K.In s.heap) (I : InstAt s.heap x ox C od) (hs : findIn K (.ref C) name = some (some (.builtin id)))
    (hb : ∀ self, bindSpecial (.builtin id) self = pure (.builtin id, [self])) (h : wpAny M A (call (.builtin id) (.ref x :: args)) (fun v => Q (some v)) E s) : wpAny M A (callSpecialIfBound? (.ref x) name args) Q E s := by
  have ty : ∀ (R : Value → Shared → Prop) (E : Value → Shared → Prop), R (.ref C) s → wpAny M A (typeOf (.ref x)) R E s := fun R E r => I.type.here r
  have fd : ∀ (R : Option Value → Shared → Prop) (E : Value → Shared → Prop), R (some (.builtin id)) s → wpAny M A (typeLookup (.ref C) name) R E s := fun R E r => (looks_findIn X hs).here r
  have bd : ∀ (R : Value × List Value → Shared → Prop) (E : Value → Shared → Prop), R (.builtin id, [.ref x]) s → wpAny M A (bindSpecial (.builtin id) (.ref x)) R E s := fun R E r => by rw [hb]; exact wpAny_pure r
  unfold callSpecialIfBound? bindSpecialIfBound?
  wp_walk using ty, fd, bd
  have go : wpAny M A (do let v ← call (.builtin id) ([.ref x] ++ args); pure (some v)) Q E s := wpAny_bind (wpAny_mono h (fun _ _ q => wpAny_pure q) fun _ _ z => z)
  refine wpAny_askSetting ?_
  split
  · exact wpAny_bind (bd _ _ (wpAny_pure go))
  · exact wpAny_tryCatch (wpAny_bind (bd _ _ (wpAny_pure go)))
/-- x != b of an own instance whose class writes __eq__ alone: the answer of __eq__ turned round -/
theorem ne_by_eq {h₀ : Heap} {L : Addr} {m : Str → Option Value} {Q : Value → Shared → Prop} (hu : A.units + 1 < cLine) (fr : Fr h₀ L s.heap m) (X₀ : K.In h₀) (I : InstAt s.heap x ox C od) (hb : Looks (model prog w) s.heap (typeOf b) tb) (hn : notFirst K C tb = true)
    (hs : findIn K (.ref C) "__ne__" = some (some (.builtin "object.__ne__"))) (hm : mroIn K C (.type "object") = some true) (he : findIn K (.ref C) "__eq__" = some (some (.ref f))) (hf : isFn K (.ref f) = true)
    (h : wpAny (model prog w) A.in1 (call (.ref f) [.ref x, b]) (fun v s' => ∃ r, v = .bool r ∧ Q (.bool (!r)) s') E s) : wpAny (model prog w) A (richCompare .NotEq (.ref x) b) Q E s := by
  have X := X₀.keeps fr.keep
  -- what trying __ne__ gives
  have asked : wpAny (model prog w) A (tryCompare (.ref x) "__ne__" b) (fun r s' => ∃ v, r = some v ∧ Q v s') E s := by
    unfold tryCompare
    refine wpAny_bind (slot_builtin X I hs F.cmp_object.ne.bind (wpAny_call (codeAny_call_builtin F.cmp_object.ne.plain F.cmpEntry_ne ?_)))
    refine check_slot (i := "object.__ne__") (owner := "object") (n := "__ne__") F.cmpKind_ne F.cmpSplit_ne (I.type.andThen (looks_mroIn X hm)) (F.cmpArgs_ne _ _) ?_
    have eq : ∀ (R : Option Value → Shared → Prop), (∀ r s', Q (.bool (!r)) s' → R (some (.bool r)) s') → wpAny (model prog w) A.in1 (callSpecialIfBound? (.ref x) "__eq__" [b]) R E s := fun R k =>
      ifBound_K X I he hf (wpAny_mono h (fun v s' ⟨r, e, q⟩ => e ▸ k r s' q) fun _ _ z => z)
    have room : ∀ (t : String) (l : List Value) (R : Unit → Shared → Prop) (E : Value → Shared → Prop), R () s → wpAny (model prog w) A.in1 (cRoomFor t l) R E s := fun t l R E q => wpAny_cRoomFor hu q
    unfold Builtin.«object.__ne__»
    refine wpAny_bind (m := slotArgs "__ne__" 1 _) (wpAny_pure (wpAny_bind (room _ _ _ _ (wpAny_bind (eq _ fun r s' q => ?_)))))
    exact wpAny_bind (wpAny_truthy_bool (wpAny_pure (wpAny_pure ⟨_, rfl, q⟩)))
  have back : ∀ k : Option Value → Sem Value, (∀ v, k (some v) = pure v) → wpAny (model prog w) A (tryCompare (.ref x) "__ne__" b >>= k) Q E s := fun k hk =>
    wpAny_bind (wpAny_mono asked (fun r s' ⟨v, e, q⟩ => by rw [e, hk]; exact wpAny_pure q) fun _ _ z => z)
  unfold richCompare
  simp only [oneThing_ref]
  refine wpAny_holding (wpAny_bind (wpAny_cRoomFor (Nat.lt_of_succ_lt hu) ?_))
  rw [cmpInfo_NotEq]
  refine wpAny_bind (I.type.here (wpAny_bind (hb.here ?_)))
  split
  · rename_i z
    have y : subIn K tb (.ref C) = some false := by
      rcases Bool.or_eq_true_iff.mp hn with y | y
      · rw [beq_iff_eq.mp y] at z
        simp at z
      · exact beq_iff_eq.mp y
    exact wpAny_bind ((looks_subIn X y).here (back _ fun v => rfl))
  · exact wpAny_bind (wpAny_pure (back _ fun v => rfl))
end
section
variable {prog : Program} {w : World} {A : Around} {E : Value → Shared → Prop} {s : Shared} {K : Frag} {x C f : Addr} {ox : Obj} {od : Option Obj} {b : Value}
/-- x + b by the own __add__ of x's class, b of a built-in type T: its number slot answers first -/
theorem add_one {T : String} {fo ro : Option Value} {cd : ClassData} {rest : List Value} {Q : Value → Shared → Prop} (X : K.In s.heap) (I : InstAt s.heap x ox C od) (hb : Looks (model prog w) s.heap (typeOf b) (.type T)) (hcd : clsIn K C = some cd) (hm : cd.mro = .ref C :: rest)
    (hs : findIn K (.ref C) (PySem.dunder "add") = some (some (.ref f))) (hf : isFn K (.ref f) = true) (hr : findIn K (.ref C) (dunderR "add") = some none)
    (h1 : findIn K (.type T) (PySem.dunder "add") = some fo) (h2 : findIn K (.type T) (dunderR "add") = some ro) (hsub : subIn K (.type T) (.ref C) = some false)
    (h : wpAny (model prog w) A (call (.ref f) [.ref x, b]) (CmpBack Q) E s) : wpAny (model prog w) A (binaryOp1 "add" (.ref x) b) (fun r s' => ∃ v, r = some v ∧ Q v s') E s := by
  have got := ksp_try X I hs hf h
  have lt := fills_K (M := model prog w) (nm := "add") X hcd hm hs
  have rt := ksp_fillsT (M := model prog w) (nm := "add") X h1 h2
  generalize ((fo.isSome && !isSeqSlot fo) || (ro.isSome && !isSeqSlot ro)) = r0 at rt
  have py := ksp_inPy (M := model prog w) (nm := "add") X hs hr (.inl rfl)
  have a1 : ∀ (R : Value → Shared → Prop) (E : Value → Shared → Prop), R (.ref C) s → wpAny (model prog w) A (typeOf (.ref x)) R E s := fun R E q => I.type.here q
  have a2 : ∀ (R : Value → Shared → Prop) (E : Value → Shared → Prop), R (.type T) s → wpAny (model prog w) A (typeOf b) R E s := fun R E q => hb.here q
  have a3 : ∀ (R : Bool → Shared → Prop) (E : Value → Shared → Prop), R true s → wpAny (model prog w) A (fillsNumberSlot (.ref C) "add") R E s := fun R E q => lt.here q
  have a4 : ∀ (R : Bool → Shared → Prop) (E : Value → Shared → Prop), R r0 s → wpAny (model prog w) A (fillsNumberSlot (.type T) "add") R E s := fun R E q => rt.here q
  have a5 : ∀ (R : Bool → Shared → Prop) (E : Value → Shared → Prop), R false s → wpAny (model prog w) A (isSubtype (.type T) (.ref C)) R E s := fun R E q => (looks_subIn X hsub).here q
  have a6 : ∀ (R : Bool → Shared → Prop) (E : Value → Shared → Prop), R true s → wpAny (model prog w) A (numberSlotInPython (.ref C) "add") R E s := fun R E q => py.here q
  have a7 : ∀ (R : Bool → Shared → Prop) (E : Value → Shared → Prop), R false s → wpAny (model prog w) A (numberSlotInPython (.type T) "add") R E s := fun R E q => wpAny_pure q
  have a8 : ∀ (R : Option Value → Shared → Prop) (E : Value → Shared → Prop), R ro s → wpAny (model prog w) A (typeLookup (.type T) (dunderR "add")) R E s := fun R E q => (looks_findIn X h2).here q
  have a9 : ∀ k : Option Value → Sem (Option Value), (∀ v, k (some v) = pure (some v)) → wpAny (model prog w) A (tryMethod (.ref x) (PySem.dunder "add") b >>= k) (fun r s' => ∃ v, r = some v ∧ Q v s') E s := fun k hk =>
    wpAny_bind (wpAny_mono got (fun r s' ⟨v, e, q⟩ => by rw [e, hk]; exact wpAny_pure ⟨v, rfl, q⟩) fun _ _ z => z)
  have ne : (Value.ref C == Value.type T) = false := rfl
  unfold binaryOp1
  refine wpAny_bind (a1 _ _ (wpAny_bind (a2 _ _ (wpAny_bind (a3 _ _ ?_)))))
  simp only [ne, Bool.false_eq_true, if_false]
  refine wpAny_bind (a4 _ _ ?_)
  cases r0
  · simp only [Bool.and_false, Bool.false_and, Bool.true_and, Bool.false_eq_true, if_false, if_true]
    refine wpAny_bind (wpAny_pure ?_)
    simp only [Bool.false_eq_true, if_false, if_true]
    exact a9 _ fun v => rfl
  · simp only [Bool.and_true, Bool.true_and, if_true]
    refine wpAny_bind (a5 _ _ ?_)
    simp only [Bool.false_eq_true, if_false, Bool.not_false, if_true]
    refine wpAny_bind (a6 _ _ ?_)
    simp only [if_true]
    refine wpAny_bind (a7 _ _ ?_)
    simp only [Bool.not_false, if_true]
    refine wpAny_bind (a8 _ _ ?_)
    exact a9 _ fun v => rfl
/-- the operator itself -/
theorem add_own {h₀ : Heap} {L : Addr} {m : Str → Option Value} {T : String} {fo ro : Option Value} {Q : Value → Shared → Prop} (fr : Fr h₀ L s.heap m) (X₀ : K.In h₀) (I : InstAt s.heap x ox C od) (hb : Looks (model prog w) s.heap (typeOf b) (.type T)) (hc : selfFirst K C = true)
    (hs : findIn K (.ref C) (PySem.dunder "add") = some (some (.ref f))) (hf : isFn K (.ref f) = true) (hr : findIn K (.ref C) (dunderR "add") = some none)
    (h1 : findIn K (.type T) (PySem.dunder "add") = some fo) (h2 : findIn K (.type T) (dunderR "add") = some ro) (hsub : subIn K (.type T) (.ref C) = some false)
    (h : wpAny (model prog w) A (call (.ref f) [.ref x, b]) (CmpBack Q) E s) : wpAny (model prog w) A (binaryOp .Add (.ref x) b) Q E s := by
  obtain ⟨cd, rest, e1, e2⟩ := ksp_first hc
  unfold binaryOp
  refine wpAny_holding (wpAny_bind (wpAny_mono (add_one (X₀.keeps fr.keep) I hb e1 e2 hs hf hr h1 h2 hsub h) (fun r s' ⟨v, e, q⟩ => ?_) fun _ _ z => z))
  rw [e]
  exact wpAny_pure q
end
end PySem.W
namespace WP
open PySem PySem.Spec PyProof.Rows L2
/-- a method of the class at C, by its promise -/
structure CalM (P : Program) (w : World) (K : PySem.W.Frag) (mg : Str → Option Value) (base : Heap) (CX : CXT) (k : Nat) (C : Addr) (m : Str) (sp : Sp) : Prop where
  ex : ∃ (f : Addr) (fd : FuncData) (ps : List Str), FnOk P w K mg base CX k f fd ps sp ∧ Meth K C m f ∧ Binds K fd ps []
section
variable {X : Cx} {CX : CXT} {k j : Nat} {f C : Addr} {fd : FuncData} {ps : List Str} {sp : Sp} {E : XK}
theorem run_fnA {A : Around} {pins : List (Addr × Obj)} {σ : L2.St} {H : Hp} {s : Shared} {Q : VK} {us : List Value} {vs : List V} (fr : A.frames = X.A.frames) (F : FnOk X.prog X.w X.K X.mg X.base CX k f fd ps sp) (hr : Room k A) (hb : Binds X.K fd ps []) (hx : Passes CX X E)
    (I : Inv X pins σ H s) (r : Vals vs us) (h : sp vs H Q E) : wpAny (model X.prog X.w) A (call (.ref f) us) (EP X pins σ Q) X.xe s := by
  have hl := F.len _ _ _ _ h
  have e0 : Env0 X.prog X.w X.K X.mg X.base A X.stack s H := by
    have e := I.env0
    exact ⟨by rw [fr]; exact e.frames, e.mod, e.bs, e.bsz, e.funs, e.frf, e.hok, e.bare⟩
  refine wpAny_call (codeAny_mono (F.run A X.stack s H ⟨us, []⟩ us vs Q E hr e0 (by
    have := hb s us I.kIn (by rw [List.append_nil, ← r.length]; exact hl)
    simpa using this) r h) fun r s' hq => ?_)
  cases r with
  | error e => exact hx pins σ H s e s' I hq
  | ok fl =>
    cases fl with
    | ret u => exact I.after hq
    | next => exact False.elim hq
    | brk => exact False.elim hq
    | cont => exact False.elim hq
def rLenO (C : Addr) (sp : Sp) (E : XK) : List V → Hp → VK → Prop := fun xs H Q => ∃ a dx fs, xs = [.ref a] ∧ H a = some (.ins C dx fs) ∧ sp [.ref a] H (fun v H' => ∃ n : Nat, v = .int n ∧ n < 2 ^ 62 ∧ Q v H') E
theorem call_lenO (c : CalM X.prog X.w X.K X.mg X.base CX k C "__len__" sp) (hr : Room j X.A) (hk : k + 1 ≤ j) (hx : Passes CX X E) : CallR X (.builtin "len") (rLenO C sp E) := by
  intro pins s σ H xs us Q I r h
  obtain ⟨a, dx, fs, rfl, ha, h⟩ := h
  obtain ⟨u, rfl, rx⟩ := vals1 r
  cases rx
  obtain ⟨f, fd, ps, F, hm, hb⟩ := c.ex
  obtain ⟨mA, J, _⟩ := ins_get I.hok ha
  obtain ⟨od, J, _⟩ := J.look
  obtain ⟨m, hF⟩ := I.fr
  refine PySem.W.len_K hF I.ok.mod.kin J hm.at_ hm.fn ?_
  refine wpAny_mono (run_fnA (A := X.A.in1) (vs := [V.ref a]) rfl F (hr.mono hk).in1 hb hx I (.cons rfl .nil) h) (fun v s' q => ?_) fun _ _ x => x
  obtain ⟨v', H', I', rv, n, rfl, hn, q⟩ := q
  obtain ⟨t, rfl⟩ := rv
  exact ⟨⟨by omega, by omega⟩, .int n, H', I'.tok _, ⟨_, rfl⟩, q⟩
def rInO (C : Addr) (sp : Sp) (E : XK) : R2 := fun x y H Q => ∃ a dx fs, y = .ref a ∧ H a = some (.ins C dx fs) ∧ sp [.ref a, x] H (fun v H' => ∃ b, v = .bl b ∧ Q (.bl b) H') E
theorem op_inO (c : CalM X.prog X.w X.K X.mg X.base CX k C "__contains__" sp) (hr : Room j X.A) (hk : k ≤ j) (hx : Passes CX X E) : OpR X (compareOp .In) (rInO C sp E) := by
  intro pins s σ H x y v u Q I rx ry h
  obtain ⟨a, dx, fs, rfl, ha, h⟩ := h
  cases ry
  obtain ⟨f, fd, ps, F, hm, hb⟩ := c.ex
  obtain ⟨mA, J, _⟩ := ins_get I.hok ha
  obtain ⟨od, J, _⟩ := J.look
  obtain ⟨m, hF⟩ := I.fr
  refine PySem.W.in_K hF I.ok.mod.kin J hm.at_ hm.fn (wpAny_mono (run_fnA (A := X.A) (vs := [V.ref a, x]) rfl F (hr.mono hk) hb hx I (.cons rfl (.cons rx .nil)) h) (fun v s' q => ?_) fun _ _ x => x)
  obtain ⟨v', H', I', rv, b, rfl, q⟩ := q
  cases rv
  exact wpAny_truthy_bool ⟨.bl b, H', I', rfl, q⟩
def rEqO (K : PySem.W.Frag) (C : Addr) (sp : Sp) (E : XK) (neg : Bool) : R2 := fun x y H Q => ∃ a dx fs t, x = .ref a ∧ H a = some (.ins C dx fs) ∧ TyX K H y t ∧ PySem.W.notFirst K C t = true ∧ sp [.ref a, y] H (fun v H' => ∃ b, v = .bl b ∧ Q (.bl (if neg then !b else b)) H') E
theorem op_eqO (K : PySem.W.Frag) (c : CalM X.prog X.w X.K X.mg X.base CX k C "__eq__" sp) (hr : Room j X.A) (hk : k ≤ j) (hx : Passes CX X E) (hK : X.K = K := by rfl) : OpR X (compareOp .Eq) (rEqO K C sp E false) := by
  subst hK
  intro pins s σ H x y v u Q I rx ry h
  obtain ⟨a, dx, fs, t, rfl, ha, ty, nf, h⟩ := h
  cases rx
  obtain ⟨f, fd, ps, F, hm, hb⟩ := c.ex
  obtain ⟨mA, J, _⟩ := ins_get I.hok ha
  obtain ⟨od, J, _⟩ := J.look
  obtain ⟨m, hF⟩ := I.fr
  obtain ⟨P, Z, p, _⟩ := kit_of I ry ty
  refine PySem.W.cmp_ofEq (PySem.W.cmp_K (op := .Eq) (hr.mono hk).units0 hF I.ok.mod.kin J (Z.ty _ _ I.kIn p) nf hm.at_ hm.fn ?_)
  refine wpAny_mono (run_fnA (A := X.A) (vs := [V.ref a, y]) rfl F (hr.mono hk) hb hx I (.cons rfl (.cons ry .nil)) h) (fun v s' q => ?_) fun _ _ x => x
  obtain ⟨v', H', I', rv, b, rfl, q⟩ := q
  cases rv
  exact ⟨.bl b, H', I', rfl, q⟩
theorem op_neO (K : PySem.W.Frag) (c : CalM X.prog X.w X.K X.mg X.base CX k C "__eq__" sp) (hr : Room j X.A) (hk : k + 1 ≤ j) (hx : Passes CX X E) (hne : PySem.W.findIn K (.ref C) "__ne__" = some (some (.builtin "object.__ne__"))) (hmr : PySem.W.mroIn K C (.type "object") = some true) (hK : X.K = K := by rfl) : OpR X (compareOp .NotEq) (rEqO K C sp E true) := by
  subst hK
  intro pins s σ H x y v u Q I rx ry h
  obtain ⟨a, dx, fs, t, rfl, ha, ty, nf, h⟩ := h
  cases rx
  obtain ⟨f, fd, ps, F, hm, hb⟩ := c.ex
  obtain ⟨mA, J, _⟩ := ins_get I.hok ha
  obtain ⟨od, J, _⟩ := J.look
  obtain ⟨m, hF⟩ := I.fr
  obtain ⟨P, Z, p, _⟩ := kit_of I ry ty
  have hu := hr.units
  refine PySem.W.cmp_ofNotEq (PySem.W.ne_by_eq (by omega) hF I.ok.mod.kin J (Z.ty _ _ I.kIn p) nf hne hmr hm.at_ hm.fn ?_)
  refine wpAny_mono (run_fnA (A := X.A.in1) (vs := [V.ref a, y]) rfl F (hr.mono hk).in1 hb hx I (.cons rfl (.cons ry .nil)) h) (fun v s' q => ?_) fun _ _ x => x
  obtain ⟨v', H', I', rv, b, rfl, q⟩ := q
  cases rv
  exact ⟨b, rfl, .bl (!b), H', I', rfl, q⟩
/-- what the written part says of + with a value of the built-in type T -/
structure AddT (K : PySem.W.Frag) (C : Addr) (T : String) : Prop where
  sf : PySem.W.selfFirst K C = true
  ra : PySem.W.findIn K (.ref C) (dunderR "add") = some none
  fo : ∃ fo, PySem.W.findIn K (.type T) (PySem.dunder "add") = some fo
  ro : ∃ ro, PySem.W.findIn K (.type T) (dunderR "add") = some ro
  sub : PySem.W.subIn K (.type T) (.ref C) = some false
def rAddO (K : PySem.W.Frag) (C : Addr) (sp : Sp) (E : XK) : R2 := fun x y H Q => ∃ a dx fs T, x = .ref a ∧ H a = some (.ins C dx fs) ∧ TyX K H y (.type T) ∧ AddT K C T ∧ sp [.ref a, y] H (fun v H' => (∃ p, v = .ref p) ∧ Q v H') E
theorem op_addO (K : PySem.W.Frag) (c : CalM X.prog X.w X.K X.mg X.base CX k C "__add__" sp) (hr : Room j X.A) (hk : k ≤ j) (hx : Passes CX X E) (hK : X.K = K := by rfl) : OpR X (binaryOp .Add) (rAddO K C sp E) := by
  subst hK
  intro pins s σ H x y v u Q I rx ry h
  obtain ⟨a, dx, fs, T, rfl, ha, ty, ad, h⟩ := h
  cases rx
  obtain ⟨f, fd, ps, F, hm, hb⟩ := c.ex
  obtain ⟨mA, J, _⟩ := ins_get I.hok ha
  obtain ⟨od, J, _⟩ := J.look
  obtain ⟨m, hF⟩ := I.fr
  obtain ⟨P, Z, p, _⟩ := kit_of I ry ty
  obtain ⟨fo, hfo⟩ := ad.fo
  obtain ⟨ro, hro⟩ := ad.ro
  refine PySem.W.add_own hF I.ok.mod.kin J (Z.ty _ _ I.kIn p) ad.sf hm.at_ hm.fn ad.ra hfo hro ad.sub ?_
  refine wpAny_mono (run_fnA (A := X.A) (vs := [V.ref a, y]) rfl F (hr.mono hk) hb hx I (.cons rfl (.cons ry .nil)) h) (fun v s' q => ?_) fun _ _ x => x
  obtain ⟨v', H', I', rv, ⟨p, rfl⟩, q⟩ := q
  cases rv
  exact ⟨.ref p, H', I', rfl, q⟩
/-- C.m() of a static method -/
structure CalS (P : Program) (w : World) (K : PySem.W.Frag) (mg : Str → Option Value) (base : Heap) (CX : CXT) (k : Nat) (C : Addr) (m : Str) (sp : Sp) : Prop where
  ex : ∃ (p g : Addr) (fd : FuncData) (ps : List Str) (mc : Value), FnOk P w K mg base CX k g fd ps sp ∧ Binds K fd ps [] ∧ ClX.CRead K C mc ∧ PySem.W.findCls K (.ref C) mc m = some (.get (.builtin "staticmethod.__get__") (.ref p) .none (.ref C)) ∧ (∃ rest, PySem.W.recIn K p "staticmethod" = some (.ref g :: rest)) ∧ PySem.W.keepIn K (.ref g) = true
def tStat (C : Addr) (sp : Sp) (E : XK) (ta : TE) (t : TA) : TE := fun σ H Q => ta σ H fun x H1 => x = .ref C ∧ t σ H1 fun vs H2 => sp vs H2 Q E
theorem pe_stat0 {m : Str} {o : Expr} {ta : TE} {apos pos : Pos} {pl : Sem Bool} (c : CalS X.prog X.w X.K X.mg X.base CX k C m sp) (hr : Room j X.A) (hk : k ≤ j) (he : PE X o ta) (hx : Passes CX X E)
    (ht : eval (.Call (.Attribute o m apos) [] [] pos) X.env = (do
      let ov ← eval o X.env
      standAt apos.atName
      let (f, first) ← holding [ov] (getMethod ov m pl)
      callWith pos f first (backTo pos (starEach [] X.env)) (backToKw pos (keywordEach [] X.env))) := by rfl) :
    PE X (.Call (.Attribute o m apos) [] [] pos) (tStat C sp E ta tNil) := by
  obtain ⟨p, g, fd, ps, mc, F, hb, cr, at_, ⟨rest, rc⟩, kp⟩ := c.ex
  refine ⟨fun pins s σ H Q I h => ?_⟩
  refine PySem.W.methodCall_KW (pl := pl) (thn (he.run pins s σ H _ I h) fun u s1 ⟨x, H1, I1, rx, ex, q⟩ => ?_) ht
  subst ex
  obtain rfl : u = Value.ref C := rx
  refine PySem.W.method_cls I1.kIn cr.ga ?_
  refine PySem.W.cls_bind I1.kIn cr.rd at_ (wpAny_call (PySem.W.sm_get (s := { s1 with toks := s1.toks + 1 }) I1.kIn rc (PySem.W.handed_on rfl ?_)))
  have I2 : Inv X pins σ H1 { s1 with toks := s1.toks + 1 } := I1.tok _
  exact PySem.W.callWith_K0 I2.kIn kp (run_fn (us := []) F (hr.mono hk) hb .nil hx I2 .nil q)
end
end WP

set_option Elab.async false
set_option linter.all false
set_option maxRecDepth 100000
set_option maxHeartbeats 4000000
/-! families: the plain mathematics, and what a family is in the heap -/
namespace WP
open PySem PySem.Spec PyProof.Rows L2
/-! ### class names -/
theorem caps_mem {c : Nat} : c ∈ capsL ↔ 65 ≤ c ∧ c ≤ 90 := by
  unfold capsL
  rw [List.mem_map]
  constructor
  · rintro ⟨x, hx, rfl⟩
    have := List.mem_range.mp hx
    omega
  · intro h
    exact ⟨c - 65, List.mem_range.mpr (by omega), by omega⟩
theorem small_memL {c : Nat} : c ∈ smallL ↔ 97 ≤ c ∧ c ≤ 122 := by
  unfold smallL
  rw [List.mem_map]
  constructor
  · rintro ⟨x, hx, rfl⟩
    have := List.mem_range.mp hx
    omega
  · intro h
    exact ⟨c - 97, List.mem_range.mpr (by omega), by omega⟩
theorem isCls_iff {z : Str} : isClsS z = true ↔ ClsN z := by
  unfold isClsS ClsN
  constructor
  · intro h
    split at h
    · cases h
    · rename_i c r e
      simp only [Bool.and_eq_true, decide_eq_true_eq, List.all_eq_true, Bool.or_eq_true] at h
      obtain ⟨h1, h2, h3⟩ := h
      refine ⟨c, r, e, caps_mem.mp h2, fun d hd => ?_, h1⟩
      rcases h3 d (List.mem_cons_of_mem _ hd) with h | h
      · exact .inl (small_memL.mp h)
      · exact .inr (caps_mem.mp h)
  · rintro ⟨c, r, e, h1, h2, h3⟩
    rw [e]
    simp only [Bool.and_eq_true, decide_eq_true_eq, List.all_eq_true, Bool.or_eq_true]
    refine ⟨h3, caps_mem.mpr h1, fun d hd => ?_⟩
    rcases List.mem_cons.mp hd with rfl | hd
    · exact .inr (caps_mem.mpr h1)
    · rcases h2 d hd with h | h
      · exact .inl (small_memL.mpr h)
      · exact .inr (caps_mem.mpr h)
theorem ClsN.len {z : Str} (h : ClsN z) : 1 ≤ z.length ∧ z.length ≤ 12 := by
  obtain ⟨c, r, e, _, _, h3⟩ := h
  have : z.cps.toList.length = z.length := by simp [Str.length]
  rw [e, List.length_cons] at this
  omega
/-! ### families as lists of pairs -/
abbrev Prs := List (Str × Str)
def names4 : List Str := ["Error", "Failed", "Misuse", "Beyond"]
def kvs4 : List (Key × V) := [(Sum.inr "Error", .non), (Sum.inr "Failed", .str "Error"), (Sum.inr "Misuse", .str "Error"), (Sum.inr "Beyond", .str "Misuse")]
def famKeys (ps : Prs) : List Str := names4 ++ ps.map (·.1)
def famKvs (ps : Prs) : List (Key × V) := kvs4 ++ ps.map fun q => (Sum.inr q.1, V.str q.2)
theorem famKvs_keys (ps : Prs) : (famKvs ps).map (fun kv => kV kv.1) = (famKeys ps).map V.str := by
  unfold famKvs famKeys
  rw [List.map_append, List.map_append, List.map_map, List.map_map]
  rfl
theorem famKvs_length (ps : Prs) : (famKvs ps).length = 4 + ps.length := by
  unfold famKvs
  rw [List.length_append, List.length_map]
  rfl
theorem famKeys_length (ps : Prs) : (famKeys ps).length = 4 + ps.length := by
  unfold famKeys
  rw [List.length_append, List.length_map]
  rfl
theorem famKvs_fst (ps : Prs) : (famKvs ps).map (·.1) = (famKeys ps).map Sum.inr := by
  unfold famKvs famKeys
  rw [List.map_append, List.map_append, List.map_map, List.map_map]
  rfl
theorem valV_mem {kvs : List (Key × V)} {k : Key} : (valV kvs k).isSome = true ↔ k ∈ kvs.map (fun kv : Key × V => kv.1) := by
  rw [← valV_any]
  rw [List.any_eq_true, List.mem_map]
  constructor
  · rintro ⟨kv, h1, h2⟩
    exact ⟨kv, h1, of_decide_eq_true h2⟩
  · rintro ⟨kv, h1, h2⟩
    exact ⟨kv, h1, decide_eq_true h2⟩
theorem fam_in (ps : Prs) (n : Str) : (valV (famKvs ps) (Sum.inr n)).isSome = decide (n ∈ famKeys ps) := by
  rw [Bool.eq_iff_iff, valV_mem, decide_eq_true_eq]
  show Sum.inr n ∈ (famKvs ps).map (·.1) ↔ _
  rw [famKvs_fst, List.mem_map]
  constructor
  · rintro ⟨m, h1, h2⟩
    injection h2 with h2
    exact h2 ▸ h1
  · exact fun h => ⟨n, h, rfl⟩
theorem famKvs_snoc (ps : Prs) (q : Str × Str) : famKvs (ps ++ [q]) = famKvs ps ++ [(Sum.inr q.1, V.str q.2)] := by
  unfold famKvs
  rw [List.map_append, List.append_assoc]
  rfl
theorem famKeys_snoc (ps : Prs) (q : Str × Str) : famKeys (ps ++ [q]) = famKeys ps ++ [q.1] := by
  unfold famKeys
  rw [List.map_append, List.append_assoc]
  rfl
theorem fam_put {ps : Prs} {n p : Str} (h : n ∉ famKeys ps) : putK (famKvs ps) (Sum.inr n) (V.str p) = famKvs (ps ++ [(n, p)]) := by
  unfold putK
  rw [valV_any, fam_in, decide_eq_false h, if_neg (by simp), famKvs_snoc]
theorem valV_snoc {kvs : List (Key × V)} {k : Key} {v : V} (h : (valV kvs k).isSome = false) : valV (kvs ++ [(k, v)]) k = some v := by
  induction kvs with
  | nil => exact valV_pos rfl
  | cons p r ih =>
    by_cases e : p.1 = k
    · rw [valV_pos e] at h; cases h
    · rw [valV_neg e] at h
      rw [List.cons_append, valV_neg e]
      exact ih h
theorem fam_get_new {ps : Prs} {n p : Str} (h : n ∉ famKeys ps) : valV (famKvs (ps ++ [(n, p)])) (Sum.inr n) = some (V.str p) := by
  rw [famKvs_snoc]
  exact valV_snoc (by rw [fam_in, decide_eq_false h])
theorem fam_getv {ps : Prs} {n : Str} (h : n ∈ famKeys ps) : ∃ v, valV (famKvs ps) (Sum.inr n) = some v := by
  have := fam_in ps n
  rw [decide_eq_true h] at this
  exact Option.isSome_iff_exists.mp this
/-- an entry that fits behind these names: the name, the class it is directly under -/
def fitsP (ns : List Str) : PyData → Option (Str × Str)
  | .tuple [.str n, .none] => if isClsS n && !decide (n ∈ ns) then some (n, "Error") else none
  | .tuple [.str n, .str p] => if isClsS n && (!decide (n ∈ ns) && decide (p ∈ ns)) then some (n, p) else none
  | _ => none
def famD : Prs → List PyData → Nat ⊕ Prs
  | acc, [] => .inr acc
  | acc, d :: r => match fitsP (famKeys acc) d with
    | some q => famD (acc ++ [q]) r
    | none => .inl acc.length
def famOf : PyData → Int ⊕ Prs
  | .list xs => (match famD [] xs with
    | .inl k => .inl (k : Int)
    | .inr ps => .inr ps)
  | .tuple xs => (match famD [] xs with
    | .inl k => .inl (k : Int)
    | .inr ps => .inr ps)
  | _ => .inl (-1)
theorem famD_step {acc : Prs} {xs : List PyData} {i : Nat} {d : PyData} (h : xs[i]? = some d) : famD acc (xs.drop i) = match fitsP (famKeys acc) d with
    | some q => famD (acc ++ [q]) (xs.drop (i + 1))
    | none => .inl acc.length := by
  have hi : i < xs.length := (List.getElem?_eq_some_iff.mp h).1
  have e : xs[i] = d := (List.getElem?_eq_some_iff.mp h).2
  rw [List.drop_eq_getElem_cons hi, e]
  rfl
theorem fitsP_spec {ns : List Str} {d : PyData} {q : Str × Str} (h : fitsP ns d = some q) : ClsN q.1 ∧ q.1 ∉ ns ∧ (q.2 ∈ ns ∨ q.2 = "Error") := by
  unfold fitsP at h
  split at h
  · split at h
    · rename_i h1
      rw [Bool.and_eq_true] at h1
      cases h
      exact ⟨isCls_iff.mp h1.1, by simpa using h1.2, .inr rfl⟩
    · cases h
  · split at h
    · rename_i h1
      rw [Bool.and_eq_true, Bool.and_eq_true] at h1
      cases h
      exact ⟨isCls_iff.mp h1.1, by simpa using h1.2.1, .inl (by simpa using h1.2.2)⟩
    · cases h
  · cases h
/-- what a family's pairs are like -/
structure FamOk (ps : Prs) : Prop where
  nd : (famKeys ps).Nodup
  cl : ∀ n ∈ famKeys ps, ClsN n
  up : ∀ q ∈ ps, q.2 ∈ famKeys ps
  ord : ∀ (i : Nat) (q : Str × Str), ps[i]? = some q → q.2 ∈ famKeys (ps.take i)
theorem fam_nil : FamOk [] := by
  have h4 : ∀ n ∈ names4, isClsS n = true := by decide +kernel
  exact ⟨by decide +kernel, fun n h => isCls_iff.mp (h4 n (by simpa [famKeys] using h)), fun q h => (by cases h), fun i q h => (by simp at h)⟩
theorem err_in (ps : Prs) : ("Error" : Str) ∈ famKeys ps := List.mem_append_left _ (List.mem_cons_self ..)
theorem FamOk.snoc {ps : Prs} {d : PyData} {q : Str × Str} (h : FamOk ps) (e : fitsP (famKeys ps) d = some q) : FamOk (ps ++ [q]) := by
  obtain ⟨h1, h2, h3⟩ := fitsP_spec e
  have k := famKeys_snoc ps q
  have hq2 : q.2 ∈ famKeys ps := by
    rcases h3 with h3 | h3
    · exact h3
    · rw [h3]; exact err_in ps
  refine ⟨?_, fun n hn => ?_, fun r hr => ?_, fun i r hr => ?_⟩
  · rw [k, List.nodup_append]
    exact ⟨h.nd, by simp, fun a ha b hb => by rw [List.mem_singleton.mp hb]; exact fun z => h2 (z ▸ ha)⟩
  · rw [k] at hn
    rcases List.mem_append.mp hn with hn | hn
    · exact h.cl n hn
    · rw [List.mem_singleton.mp hn]; exact h1
  · rw [k]
    refine List.mem_append_left _ ?_
    rcases List.mem_append.mp hr with hr | hr
    · exact h.up r hr
    · rw [List.mem_singleton.mp hr]
      exact hq2
  · by_cases hi : i < ps.length
    · rw [List.getElem?_append_left hi] at hr
      rw [List.take_append_of_le_length (Nat.le_of_lt hi)]
      exact h.ord i r hr
    · have hi2 : i = ps.length := by
        have := (List.getElem?_eq_some_iff.mp hr).1
        rw [List.length_append, List.length_singleton] at this
        omega
      subst hi2
      rw [List.getElem?_append_right (Nat.le_refl _), Nat.sub_self] at hr
      have : q = r := by simpa using hr
      subst this
      rw [List.take_append_of_le_length (Nat.le_refl _), List.take_length]
      exact hq2
theorem famD_ok : ∀ {xs : List PyData} {acc ps : Prs}, FamOk acc → famD acc xs = .inr ps → FamOk ps ∧ ps.length = acc.length + xs.length
  | [], acc, ps, h, e => by
    have e : (Sum.inr acc : Nat ⊕ Prs) = .inr ps := e
    cases e
    exact ⟨h, rfl⟩
  | d :: r, acc, ps, h, e => by
    unfold famD at e
    split at e
    · rename_i q hq
      obtain ⟨a, b⟩ := famD_ok (h.snoc hq) e
      refine ⟨a, ?_⟩
      rw [b, List.length_append, List.length_singleton, List.length_cons]
      omega
    · cases e
theorem famD_cons (acc : Prs) (d : PyData) (r : List PyData) : famD acc (d :: r) = match fitsP (famKeys acc) d with
    | some q => famD (acc ++ [q]) r
    | none => .inl acc.length := rfl
theorem famD_nil (acc : Prs) : famD acc [] = .inr acc := rfl
theorem famD_app : ∀ {xs ys : List PyData} {acc ps : Prs}, famD acc xs = .inr ps → famD acc (xs ++ ys) = famD ps ys
  | [], ys, acc, ps, e => by
    have e : (Sum.inr acc : Nat ⊕ Prs) = .inr ps := e
    cases e
    rfl
  | d :: r, ys, acc, ps, e => by
    rw [List.cons_append]
    rw [famD_cons] at e ⊢
    cases hq : fitsP (famKeys acc) d with
    | some q =>
      rw [hq] at e
      exact famD_app e
    | none =>
      rw [hq] at e
      cases e
/-! ### the pairs as data -/
def prD (q : Str × Str) : PyData := .tuple [.str q.1, .str q.2]
theorem prD_fits {ps : Prs} {q : Str × Str} (h1 : ClsN q.1) (h2 : q.1 ∉ famKeys ps) (h3 : q.2 ∈ famKeys ps) : fitsP (famKeys ps) (prD q) = some q := by
  show (if isClsS q.1 && (!decide (q.1 ∈ famKeys ps) && decide (q.2 ∈ famKeys ps)) then some (q.1, q.2) else none) = _
  rw [isCls_iff.mpr h1, decide_eq_false h2, decide_eq_true h3]
  rfl
def decD (ps : Prs) : PyData := .tuple (ps.map prD)
theorem fam_depth (ps : Prs) : PyData.depthAll (ps.map prD) ≤ 1 := by
  induction ps with
  | nil => simp [PyData.depthAll]
  | cons q r ih =>
    rw [List.map_cons, PyData.depthAll]
    have : (prD q).depth = 1 := by simp [prD, PyData.depth, PyData.depthAll]
    omega
theorem fam_canLay {ps : Prs} (h : ∀ q ∈ ps, ClsN q.1 ∧ ClsN q.2) : PyData.canLayAll0 (ps.map prD) = true := by
  induction ps with
  | nil => simp [PyData.canLayAll0]
  | cons q r ih =>
    rw [List.map_cons, PyData.canLayAll0, ih fun p hp => h p (List.mem_cons_of_mem _ hp), Bool.and_true]
    obtain ⟨h1, h2⟩ := h q (List.mem_cons_self ..)
    simp [prD, PyData.canLay0, PyData.canLayAll0, cls_ok h1, cls_ok h2]
theorem FamOk.both {ps : Prs} (h : FamOk ps) : ∀ q ∈ ps, ClsN q.1 ∧ ClsN q.2 := fun q hq =>
  ⟨h.cl _ (List.mem_append_right _ (List.mem_map_of_mem hq)), h.cl _ (h.up q hq)⟩
theorem dec_shaped {ps : Prs} (h : FamOk ps) : SeqAt.shaped (decD ps) = true := by
  have h1 := fam_canLay h.both
  have h2 := fam_depth ps
  unfold decD SeqAt.shaped
  rw [PyData.canLay0, PyData.depth, h1, Bool.true_and]
  exact decide_eq_true (by omega)
theorem dec_fit {ps : Prs} (h : FamOk ps) (hl : ps.length ≤ 100000) : fit (decD ps) = true := by
  unfold decD
  rw [fit, List.length_map, decide_eq_true hl, Bool.true_and]
  refine fitAll_of fun d hd => ?_
  obtain ⟨q, hq, rfl⟩ := List.mem_map.mp hd
  obtain ⟨h1, h2⟩ := h.both q hq
  have l1 := h1.len
  have l2 := h2.len
  unfold prD
  rw [fit, fitAll, fitAll, fitAll, fit, fit, cls_ok h1, cls_ok h2, decide_eq_true (by omega : q.1.length ≤ 100000), decide_eq_true (by omega : q.2.length ≤ 100000)]
  rfl
theorem eqv_prD (p q : Str × Str) : PyData.eqv (prD p) (prD q) = decide (p = q) := by
  obtain ⟨a, b⟩ := p
  obtain ⟨c, d⟩ := q
  unfold prD
  by_cases h1 : a = c
  · by_cases h2 : b = d
    · subst h1 h2
      simp [PyData.eqv, PyData.eqvAll]
    · have : ¬ ((a, b) = (c, d)) := fun e => h2 (Prod.mk.inj e).2
      rw [decide_eq_false this]
      simp [PyData.eqv, PyData.eqvAll, h1, h2]
  · have : ¬ ((a, b) = (c, d)) := fun e => h1 (Prod.mk.inj e).1
    rw [decide_eq_false this]
    simp [PyData.eqv, PyData.eqvAll, h1]
theorem eqv_decAll : ∀ ps qs : Prs, PyData.eqvAll (ps.map prD) (qs.map prD) = decide (ps = qs)
  | [], [] => by simp [PyData.eqvAll]
  | [], _ :: _ => by simp [PyData.eqvAll]
  | _ :: _, [] => by simp [PyData.eqvAll]
  | p :: ps, q :: qs => by
    rw [List.map_cons, List.map_cons, PyData.eqvAll, eqv_prD, eqv_decAll ps qs]
    by_cases h1 : p = q
    · by_cases h2 : ps = qs
      · rw [h1, h2]; simp
      · rw [h1]; simp [h2]
    · simp [h1]
theorem eqv_dec (ps qs : Prs) : PyData.eqv (decD ps) (decD qs) = decide (ps = qs) := by
  unfold decD
  rw [PyData.eqv]
  exact eqv_decAll ps qs
/-! ### a family in the heap -/
def PrAt (H : Hp) (ts : List Addr) (ps : Prs) : Prop := Paired (fun t q => H t = some (.tup [.str q.1, .str q.2])) ts ps
structure IsFam (K : PySem.W.Frag) (C : Addr) (H : Hp) (x : Addr) (ps : Prs) : Prop where
  ok : FamOk ps
  few : ps.length ≤ 1000
  ex : ∃ (dx P T : Addr) (ts : List Addr), H x = some (.ins C dx [("parents", .ref P), ("declared", .ref T)]) ∧ H P = some (.dK (famKvs ps)) ∧ H T = some (.tup (ts.map V.ref)) ∧ PrAt H ts ps
theorem Paired.monoP {α β : Type} {R R' : α → β → Prop} (h : ∀ a b, R a b → R' a b) : ∀ {xs : List α} {ys : List β}, Paired R xs ys → Paired R' xs ys
  | _, _, .nil => .nil
  | _, _, .cons a r => .cons (h _ _ a) (Paired.monoP h r)
theorem PrAt.mono {H H' : Hp} (e : Evl.Ex H H') {ts : List Addr} {ps : Prs} (h : PrAt H ts ps) : PrAt H' ts ps := Paired.monoP (fun _ _ q => e _ _ q) h
theorem IsFam.mono {K : PySem.W.Frag} {C : Addr} {H H' : Hp} {x : Addr} {ps : Prs} (e : Evl.Ex H H') (h : IsFam K C H x ps) : IsFam K C H' x ps := by
  obtain ⟨ok, few, dx, P, T, ts, h1, h2, h3, h4⟩ := h
  exact ⟨ok, few, dx, P, T, ts, e _ _ h1, e _ _ h2, e _ _ h3, h4.mono e⟩
theorem PrAt.dp {K : PySem.W.Frag} {H : Hp} : ∀ {ts : List Addr} {ps : Prs}, PrAt H ts ps → DpAll K H (ts.map V.ref) (ps.map prD)
  | _, _, .nil => .nil
  | _, _, .cons a r => .cons (.tup (SqT.of a) (.cons (.str _) (.cons (.str _) .nil))) (PrAt.dp r)
theorem PrAt.length {H : Hp} : ∀ {ts : List Addr} {ps : Prs}, PrAt H ts ps → ts.length = ps.length
  | _, _, .nil => rfl
  | _, _, .cons _ r => congrArg Nat.succ (PrAt.length r)
theorem Paired.snocP {α β : Type} {R : α → β → Prop} {a : α} {b : β} (h : R a b) : ∀ {xs : List α} {ys : List β}, Paired R xs ys → Paired R (xs ++ [a]) (ys ++ [b])
  | _, _, .nil => .cons h .nil
  | _, _, .cons q r => .cons q (Paired.snocP h r)
end WP

set_option Elab.async false
set_option linter.all false
set_option maxRecDepth 100000
set_option maxHeartbeats 400000
/-! rules over own classes and dicts, K written out; readings step by step -/
namespace WP
open PySem PySem.Spec PyProof.Rows L2
theorem takes00 {X : Cx} : Takes X (fun _ _ _ _ => False) := fun _ _ x => by
  obtain ⟨_, _, _, _, _, _, _, _, _, _, _, _, _, _, _, _, z⟩ := x
  exact z.elim
/-- no exception is let out -/
theorem passF {X : Cx} : Passes (L2.CX X.prog X.w) X L2.E0 := passes_call takes00 fun _ _ _ _ h => h
theorem passT {X : Cx} {E : XK} (tk : Takes X (fun cls d _ H => E cls d H)) : Passes (L2.CX X.prog X.w) X E := passes_call tk fun _ _ _ _ h => h
theorem passAt_of {X : Cx} {CX : CXT} {E : XK} (h : Passes CX X E) (σ : L2.St) : PassesAt CX X σ E := fun pins H s e s' I c => h pins σ H s e s' I c
section
variable {X : Cx}
def rInD : R2 := fun x y H Q => ∃ a o, y = .ref a ∧ DGet H a x o ∧ Q (.bl o.isSome) H
def rNotInD : R2 := fun x y H Q => ∃ a o, y = .ref a ∧ DGet H a x o ∧ Q (.bl (!o.isSome)) H
theorem op_inD (hu : X.A.units + 1 < cLine) : OpR X (compareOp .In) rInD := by
  rintro pins s σ H x y v u Q I rx ry ⟨a, o, rfl, g, q⟩
  cases ry
  exact d_in hu I g rx fun s3 I3 => ⟨.bl o.isSome, H, I3, rfl, q⟩
theorem op_notInD (hu : X.A.units + 1 < cLine) : OpR X (compareOp .NotIn) rNotInD := by
  rintro pins s σ H x y v u Q I rx ry ⟨a, o, rfl, g, q⟩
  cases ry
  exact d_notIn hu I g rx fun s3 I3 => ⟨.bl (!o.isSome), H, I3, rfl, q⟩
def rListD : List V → Hp → VK → Prop := fun xs H Q => ∃ (a : Addr) (kvs : List (Key × V)), xs = [.ref a] ∧ Rd H a (.dK kvs) ∧ ∀ p, H p = none → Q (.ref p) (upd H p (.lst (kvs.map fun kv => kV kv.1)))
theorem call_listDA (hc : X.calm = true) : CallR X (.type "list") rListD := call_listD hc
def rLenD : List V → Hp → VK → Prop := fun xs H Q => ∃ a kvs, xs = [V.ref a] ∧ H a = some (.dK kvs) ∧ Q (.int kvs.length) H
theorem call_lenDA : CallR X (.builtin "len") rLenD := call_lenD
theorem pe_fldA (K : PySem.W.Frag) {e : Expr} {f : Str} {pos : Pos} {ta : TE} (he : PE X e ta) (hb : attributeBase e f X.env (eval e X.env) = eval e X.env := by rfl) (hK : X.K = K := by rfl) : PE X (.Attribute e f pos) (tFld K ta f) := by
  subst hK; exact pe_fld he hb
theorem ps_fldA (K : PySem.W.Frag) {o value : Expr} {f : Str} {pos pos' : Pos} {ta tv : TE} (ha : PE X o ta) (hv : PE X value tv) (hs : swapsWith value (some (.Attribute o f pos')) pos.line X.env = pure false := by rfl) (hK : X.K = K := by rfl) : PS X (.Assign [.Attribute o f pos'] value pos) (sFld K ta tv f) := by
  subst hK; exact ps_fld ha hv hs
theorem pa_starA (K : PySem.W.Frag) {e : Expr} {es : List Expr} {p : Pos} {te : TE} {t : TA} (he : PE X e te) (hr : PA X es t) (hs : starEach (.Starred e p :: es) X.env = (true, eval e X.env) :: starEach es X.env := by rfl) (hK : X.K = K := by rfl) : PA X (.Starred e p :: es) (StX.tStar K te t) := by
  subst hK; exact StX.pa_star he hr hs
/-! ### methods, instances -/
variable {CX : CXT} {k j : Nat} {C : Addr} {sp : Sp} {E : XK} {W : WX} {o e : Expr} {es : List Expr} {m x : Str} {apos pos p : Pos} {ta : TE} {t : TA} {pl : Sem Bool}
theorem pe_cM (c : CalM X.prog X.w X.K X.mg X.base CX k C m sp) (hr : Room j X.A) (hk : k ≤ j) (cl : Cls X.K C) (hx : Passes CX X E) (he : PE X o ta) (ha : PA X (e :: es) t)
    (hst : starEach (e :: es) X.env = (false, eval e X.env) :: starEach es X.env := by rfl) (hpl : (backTo pos (starEach es X.env)).any (·.1) = false := by rfl)
    (ht : eval (.Call (.Attribute o m apos) (e :: es) [] pos) X.env = (do
      let ov ← eval o X.env
      standAt apos.atName
      let (f, first) ← holding [ov] (getMethod ov m pl)
      callWith pos f first (backTo pos (starEach (e :: es) X.env)) (backToKw pos (keywordEach [] X.env))) := by rfl) :
    PE X (.Call (.Attribute o m apos) (e :: es) [] pos) (tMeth C m sp [] E ta t) := by
  obtain ⟨f, fd, ps, F, hm, hb⟩ := c.ex
  exact pe_meth he cl hm F (hr.mono hk) hb .nil hx ha hst hpl ht
theorem pe_cM0 (c : CalM X.prog X.w X.K X.mg X.base CX k C m sp) (hr : Room j X.A) (hk : k ≤ j) (cl : Cls X.K C) (hx : Passes CX X E) (he : PE X o ta)
    (ht : eval (.Call (.Attribute o m apos) [] [] pos) X.env = (do
      let ov ← eval o X.env
      standAt apos.atName
      let (f, first) ← holding [ov] (getMethod ov m pl)
      callWith pos f first (backTo pos (starEach [] X.env)) (backToKw pos (keywordEach [] X.env))) := by rfl) :
    PE X (.Call (.Attribute o m apos) [] [] pos) (tMeth C m sp [] E ta tNil) := by
  obtain ⟨f, fd, ps, F, hm, hb⟩ := c.ex
  exact pe_meth0 he cl hm F (hr.mono hk) hb .nil hx ht
/-- the class at C, made by its __init__ -/
structure CalC (P : Program) (w : World) (K : PySem.W.Frag) (mg : Str → Option Value) (base : Heap) (CX : CXT) (k : Nat) (x : Str) (C : Addr) (sp : Sp) : Prop where
  ex : ∃ (f : Addr) (fd : FuncData) (ps : List Str), FnOk P w K mg base CX k f fd ps sp ∧ Mk K C f ∧ Binds K fd ps [] ∧ mg x = some (.ref C)
theorem pe_mk (c : CalC X.prog X.w X.K X.mg X.base CX k x C sp) (hr : Room j X.A) (hk : k + 1 ≤ j) (hg : Gl X x) (hx : Passes CX X E) (ha : PA X (e :: es) t)
    (hdb : (x == ("__debug__" : Str)) = false := by decide) (he : starEach (e :: es) X.env = (false, eval e X.env) :: starEach es X.env := by rfl) (hpl : (backTo pos (starEach es X.env)).any (·.1) = false := by rfl) :
    PE X (.Call (.Name x p) (e :: es) [] pos) (tMake C sp [] E t) := by
  obtain ⟨f, fd, ps, F, M, hb, hm⟩ := c.ex
  exact pe_make M F (hr.mono hk) hg hm hb .nil hx ha hdb he hpl
/-! ### within a try -/
theorem run_fnAS {f : Addr} {fd : FuncData} {ps : List Str} {A : Around} {pins : List (Addr × Obj)} {σ : L2.St} {H : Hp} {s : Shared} {Q : VK} {us : List Value} {vs : List V} (fr : A.frames = X.A.frames) (F : FnOk X.prog X.w X.K X.mg X.base CX k f fd ps sp) (hr : Room k A) (hb : Binds X.K fd ps []) (hx : PassesAt CX X σ E)
    (I : Inv X pins σ H s) (r : Vals vs us) (h : sp vs H Q E) : wpAny (model X.prog X.w) A (call (.ref f) us) (EP X pins σ Q) X.xe s := by
  have e := I.env0
  have bound := hb s us I.kIn (by rw [List.append_nil, ← r.length]; exact F.len _ _ _ _ h)
  rw [List.append_nil] at bound
  refine wpAny_call (codeAny_mono (F.run A X.stack s H ⟨us, []⟩ us vs Q E hr ⟨fr.trans e.frames, e.mod, e.bs, e.bsz, e.funs, e.frf, e.hok, e.bare⟩ bound r h) ?_)
  rintro (x | fl) s' out
  · exact hx pins H s x s' I out
  · cases fl <;> first | exact I.after out | exact out.elim
def tAddOS (K : PySem.W.Frag) (C : Addr) (sp : Sp) (W : WX) (ta tb : TE) : TE := fun σ H Q => ta σ H fun x H1 => tb σ H1 fun y H2 => rAddO K C sp (WE W σ) x y H2 Q
theorem pe_addOS (K : PySem.W.Frag) {a b : Expr} {tb : TE} (c : CalM X.prog X.w X.K X.mg X.base (L2.CX X.prog X.w) k C "__add__" sp) (hr : Room j X.A) (hk : k ≤ j) (tk : Takes X W) (ha : PE X a ta) (hb : PE X b tb) (hK : X.K = K := by rfl) : PE X (.BinOp a .Add b pos) (tAddOS K C sp W ta tb) := by
  subst hK
  refine ⟨fun pins s σ H Q I h => ?_⟩
  refine wpAny_BinOp (binT (R := fun x y H2 => rAddO X.K C sp (WE W σ) x y H2 Q) ha hb I h fun v u s2 x y H2 I rx ry h => ?_)
  obtain ⟨a, dx, fs, T, rfl, ha, ty, ad, h⟩ := h
  cases rx
  obtain ⟨f, fd, ps, F, hm, hb⟩ := c.ex
  obtain ⟨mA, J, _⟩ := ins_get I.hok ha
  obtain ⟨od, J, _⟩ := J.look
  obtain ⟨m, hF⟩ := I.fr
  obtain ⟨P, Z, p, _⟩ := kit_of I ry ty
  obtain ⟨fo, hfo⟩ := ad.fo
  obtain ⟨ro, hro⟩ := ad.ro
  refine PySem.W.add_own hF I.ok.mod.kin J (Z.ty _ _ I.kIn p) ad.sf hm.at_ hm.fn ad.ra hfo hro ad.sub ?_
  refine wpAny_mono (run_fnAS (A := X.A) (vs := [V.ref a, y]) rfl F (hr.mono hk) hb (passAt tk σ) I (.cons rfl (.cons ry .nil)) h) (fun v s' q => ?_) fun _ _ x => x
  obtain ⟨v', H', I', rv, ⟨p, rfl⟩, q⟩ := q
  cases rv
  exact ⟨.ref p, H', I', rfl, q⟩
def tMakeS (C : Addr) (sp : Sp) (W : WX) (t : TA) : TE := fun σ H Q => t σ H fun vs H1 => ∀ x dx, H1 x = none → H1 dx = none → dx ≠ x →
  sp (.ref x :: (vs ++ [])) (upd (upd H1 dx (.own x)) x (.ins C dx [])) (fun v H2 => v = .non ∧ Q (.ref x) H2) (WE W σ)
theorem run_makeS {f : Addr} {fd : FuncData} {ps : List Str} {pins : List (Addr × Obj)} {σ : L2.St} {H : Hp} {s : Shared} {Q : VK} {us : List Value} {vs : List V} (M : Mk X.K C f) (F : FnOk X.prog X.w X.K X.mg X.base CX k f fd ps sp) {dvs : List V} {ds : List Value} (hr : Room (k + 1) X.A) (hb : Binds X.K fd ps ds) (hd : Vals dvs ds)
    (hx : PassesAt CX X σ E) (I : Inv X pins σ H s) (r : Vals vs us)
    (h : ∀ x dx, H x = none → H dx = none → dx ≠ x → sp (.ref x :: (vs ++ dvs)) (upd (upd H dx (.own x)) x (.ins C dx [])) (fun v H2 => v = .non ∧ Q (.ref x) H2) E) :
    wpAny (model X.prog X.w) X.A (call (.ref C) us) (EP X pins σ Q) X.xe s := by
  have J := Inv.made (C := C) I
  have want := h (s.heap.objs.size + 1) s.heap.objs.size (I.hok.fresh (Nat.le_add_right _ 1)) (I.hok.fresh (Nat.le_refl _)) (Nat.ne_of_lt (Nat.lt_add_one _))
  have args : Vals (V.ref (s.heap.objs.size + 1) :: (vs ++ dvs)) (Value.ref (s.heap.objs.size + 1) :: (us ++ ds)) := .cons rfl (r.append hd)
  have many : (Value.ref (s.heap.objs.size + 1) :: us ++ ds).length = ps.length := args.length.symm.trans (F.len _ _ _ _ want)
  have ran := F.run _ X.stack _ _ ⟨Value.ref (s.heap.objs.size + 1) :: us, []⟩ _ _ _ E (hr.make C us []) (J.env0.make C us []) (hb _ _ J.kIn many) args want
  refine wpAny_call (make_map I.kIn M.makes M.init (beq_iff_eq.mp M.fn) (codeAny_mono ran ?_))
  rintro (e | fl) s' out
  · exact hx pins _ _ e s' J out
  · cases fl <;> try exact out.elim
    obtain ⟨v, H', J', rv, rfl, q⟩ := J.after out
    exact ⟨rv, .ref (s.heap.objs.size + 1), H', J', rfl, q⟩
theorem pe_mkS (c : CalC X.prog X.w X.K X.mg X.base (L2.CX X.prog X.w) k x C sp) (hr : Room j X.A) (hk : k + 1 ≤ j) (hg : Gl X x) (tk : Takes X W) (ha : PA X (e :: es) t)
    (hdb : (x == ("__debug__" : Str)) = false := by decide) (he : starEach (e :: es) X.env = (false, eval e X.env) :: starEach es X.env := by rfl) (hpl : (backTo pos (starEach es X.env)).any (·.1) = false := by rfl) :
    PE X (.Call (.Name x p) (e :: es) [] pos) (tMakeS C sp W t) := by
  obtain ⟨f, fd, ps, F, M, hb, hm⟩ := c.ex
  refine ⟨fun pins s σ H Q I h => ?_⟩
  refine wpAny_Call_Name_kw (ld_glob I hg hm ?_ hdb)
  refine PySem.W.callWith_K (h₀ := X.base) I.ok.mod.kin M.kp (thn (ha.run pos pins s σ H _ I h) fun us s1 ⟨vs, H1, I1, r, q⟩ => ⟨I1.kIn, ?_⟩) he hpl
  exact run_makeS M F (hr.mono hk) hb .nil (passAt tk σ) I1 r q
def tMethX (C : Addr) (m : Str) (sp : Sp) (W : WX) (ta : TE) (t : TA) : TE := fun σ H Q => ta σ H fun x H1 => ∃ a dx fs, x = .ref a ∧ H1 a = some (.ins C dx fs) ∧ fs.lookup m = none ∧ t σ H1 fun vs H2 => sp (x :: vs) H2 Q (WE W σ)
theorem pe_cMX (c : CalM X.prog X.w X.K X.mg X.base (L2.CX X.prog X.w) k C m sp) (hr : Room j X.A) (hk : k ≤ j) (cl : Cls X.K C) (tk : Takes X W) (he : PE X o ta) (ha : PA X (e :: es) t)
    (hst : starEach (e :: es) X.env = (false, eval e X.env) :: starEach es X.env := by rfl) (hpl : (backTo pos (starEach es X.env)).any (·.1) = false := by rfl)
    (ht : eval (.Call (.Attribute o m apos) (e :: es) [] pos) X.env = (do
      let ov ← eval o X.env
      standAt apos.atName
      let (f, first) ← holding [ov] (getMethod ov m pl)
      callWith pos f first (backTo pos (starEach (e :: es) X.env)) (backToKw pos (keywordEach [] X.env))) := by rfl) :
    PE X (.Call (.Attribute o m apos) (e :: es) [] pos) (tMethX C m sp W ta t) := by
  obtain ⟨f, fd, ps, F, hm, hb⟩ := c.ex
  constructor
  intro pins s σ H Q I h
  refine PySem.W.methodCall_KW (pl := pl) (thn (he.run pins s σ H _ I h) ?_) ht
  rintro u s1 ⟨_, H1, J, rx, a, dx, fs, rfl, ea, lk, q⟩
  cases rx
  refine getmeth_ok J ea cl hm lk (PySem.W.callWith_K (first := [.ref a]) (h₀ := X.base) I.ok.mod.kin hm.kp (thn (ha.run pos pins s1 σ H1 _ J q) ?_) hst hpl)
  rintro us s2 ⟨vs, H2, J2, r, q2⟩
  exact ⟨J2.kIn, L2.run_fnS (E := WE W) (us := .ref a :: us) (vs := .ref a :: vs) F (hr.mono hk) hb (passAt tk σ) J2 (.cons rfl r) q2⟩
end
/-! ### a method's promise from its body -/
section
variable {P : Program} {w : World} {K : PySem.W.Frag} {mg : Str → Option Value} {base : Heap}
/-- what the head tells of one method -/
structure AtM (K : PySem.W.Frag) (C : Addr) (m qual : Str) (st : Stmt) : Prop where
  ex : ∃ (f : Addr) (fd : FuncData), FunD K m qual (defArgs st) (defBody st) (defScope st) [] [] f fd ∧ Meth K C m f
theorem calM_of {C : Addr} {m qual : Str} {st : Stmt} {N ps : List Str} {k : Nat} {sp : Sp} (F : AtM K C m qual st) (S : FnScope N ps (defScope st)) (len : ∀ vs H Q E, sp vs H Q E → vs.length = ps.length)
    (hb : ∀ (kV doc pm : Value) (an : Option Addr) (cdv ct : Value) (us : List Value), us.length = ps.length → bindArgs (PySem.W.fnOf m qual (defArgs st) (defBody st) (defScope st) .none kV doc pm an cdv ct) ⟨us, []⟩ = pure (ps.zip us))
    (hbody : ∀ (f : Addr) (cdv : Value) (A : Around) (outer : List Env) (s : Shared) (H : Hp) (vs : List V) (Q : VK) (E : XK), Room k (A.deeper (envOfC qual (defScope st) s.heap.objs.size f cdv)) → sp vs H Q E →
      ∃ t, PSs (cxOf L2.CX0 P w K mg base N qual (defScope st) f cdv A outer s H E).nox (defBody st) t ∧ t { nx := fun _ H' => Q .non H', rt := Q } (start N vs) H) : CalM P w K mg base L2.CX0 (k + 1) C m sp := by
  obtain ⟨f, fd, F, hm⟩ := F.ex
  refine ⟨f, fd, ps, F.ok S len fun cdv A outer s H vs Q E hr hsp => ?_, hm, F.bindsN hb⟩
  obtain ⟨t, h, q⟩ := hbody f cdv A outer s H vs Q E hr hsp
  exact ⟨t, h.nox, q⟩
theorem calMX_of {C : Addr} {m qual : Str} {st : Stmt} {N ps : List Str} {k : Nat} {sp : Sp} (F : AtM K C m qual st) (S : FnScope N ps (defScope st)) (len : ∀ vs H Q E, sp vs H Q E → vs.length = ps.length)
    (hb : ∀ (kV doc pm : Value) (an : Option Addr) (cdv ct : Value) (us : List Value), us.length = ps.length → bindArgs (PySem.W.fnOf m qual (defArgs st) (defBody st) (defScope st) .none kV doc pm an cdv ct) ⟨us, []⟩ = pure (ps.zip us))
    (hbody : ∀ (f : Addr) (cdv : Value) (A : Around) (outer : List Env) (s : Shared) (H : Hp) (vs : List V) (Q : VK) (E : XK), Room k (A.deeper (envOfC qual (defScope st) s.heap.objs.size f cdv)) → sp vs H Q E →
      ∃ t, PSs (cxOf (L2.CX P w) P w K mg base N qual (defScope st) f cdv A outer s H E) (defBody st) t ∧ t { nx := fun _ H' => Q .non H', rt := Q } (start N vs) H) : CalM P w K mg base (L2.CX P w) (k + 1) C m sp := by
  obtain ⟨f, fd, F, hm⟩ := F.ex
  exact ⟨f, fd, ps, F.ok S len fun cdv A outer s H vs Q E hr hsp => hbody f cdv A outer s H vs Q E hr hsp, hm, F.bindsN hb⟩
theorem calC_of {x : Str} {C : Addr} {k : Nat} {CX : CXT} {sp : Sp} (c : CalM P w K mg base CX k C "__init__" sp) (mk : ∃ f, Mk K C f) (hm : mg x = some (.ref C)) : CalC P w K mg base CX k x C sp := by
  obtain ⟨f, fd, ps, F, m, hb⟩ := c.ex
  obtain ⟨f', M⟩ := mk
  have e := m.at_.symm.trans M.init
  cases e
  exact ⟨f, fd, ps, F, M, hb, hm⟩
theorem CalM.imp {C : Addr} {m : Str} {k : Nat} {CX : CXT} {sp sp' : Sp} (c : CalM P w K mg base CX k C m sp) (h : ∀ vs H Q E, sp' vs H Q E → sp vs H Q E) : CalM P w K mg base CX k C m sp' := by
  obtain ⟨f, fd, ps, F, m, hb⟩ := c.ex
  exact ⟨f, fd, ps, F.imp h, m, hb⟩
end
theorem ps_never {X : Cx} {st : Stmt} : PS X st (fun _ _ _ => False) := ⟨fun _ _ _ _ _ _ h => h.elim⟩
/-! ### readings -/
section
variable {K : PySem.W.Frag} {σ : L2.St} {H : Hp} {Q : VK} {ta tb tx te : TE} {t : TA} {C : Addr} {m f : Str} {sp : Sp} {dvs : List V} {E : XK} {W : WX} {D : Ends}
theorem r_fld (q : ta σ H fun x H1 => ∃ a C dx fs v, x = .ref a ∧ H1 a = some (.ins C dx fs) ∧ Cls K C ∧ NoAttr K C f ∧ fs.lookup f = some v ∧ Q v H1) : tFld K ta f σ H Q := q
theorem r_fldS (q : tb σ H fun y H1 => ta σ H1 fun x H2 => ∃ a C dx fs, x = .ref a ∧ H2 a = some (.ins C dx fs) ∧ Cls K C ∧ NoAttr K C f ∧ fs.length < 1000 ∧ D.nx σ (upd H2 a (.ins C dx (putF f y fs)))) : sFld K ta tb f D σ H := q
theorem r_meth (q : ta σ H fun x H1 => ∃ a dx fs, x = .ref a ∧ H1 a = some (.ins C dx fs) ∧ fs.lookup m = none ∧ t σ H1 fun vs H2 => sp (x :: (vs ++ dvs)) H2 Q E) : tMeth C m sp dvs E ta t σ H Q := q
theorem r_methX (q : ta σ H fun x H1 => ∃ a dx fs, x = .ref a ∧ H1 a = some (.ins C dx fs) ∧ fs.lookup m = none ∧ t σ H1 fun vs H2 => sp (x :: vs) H2 Q (WE W σ)) : tMethX C m sp W ta t σ H Q := q
theorem r_make (q : t σ H fun vs H1 => ∀ x dx, H1 x = none → H1 dx = none → dx ≠ x → sp (.ref x :: (vs ++ dvs)) (upd (upd H1 dx (.own x)) x (.ins C dx [])) (fun v H2 => v = .non ∧ Q (.ref x) H2) E) : tMake C sp dvs E t σ H Q := q
theorem r_makeS (q : t σ H fun vs H1 => ∀ x dx, H1 x = none → H1 dx = none → dx ≠ x → sp (.ref x :: (vs ++ [])) (upd (upd H1 dx (.own x)) x (.ins C dx [])) (fun v H2 => v = .non ∧ Q (.ref x) H2) (WE W σ)) : tMakeS C sp W t σ H Q := q
theorem r_addOS (q : ta σ H fun x H1 => tb σ H1 fun y H2 => rAddO K C sp (WE W σ) x y H2 Q) : tAddOS K C sp W ta tb σ H Q := q
theorem r_dgetT (q : ta σ H fun x H1 => tb σ H1 fun y H2 => ∃ a v, x = .ref a ∧ DGet H2 a y (some v) ∧ Q v H2) : tDGet ta tb σ H Q := q
theorem r_dputT (q : tx σ H fun v H1 => ta σ H1 fun x H2 => tb σ H2 fun y H3 => ∃ a H4, x = .ref a ∧ DPut H3 a y v H4 ∧ D.nx σ H4) : sDPut ta tb tx D σ H := q
theorem r_dget2T (q : ta σ H fun x H1 => ∃ a, x = .ref a ∧ IsD H1 a ∧ tb σ H1 fun y H2 => tx σ H2 fun z H3 => ∃ o, DGet H3 a y o ∧ Q (o.getD z) H3) : tDGet2 ta tb tx σ H Q := q
theorem r_starT {QA : List V → Hp → Prop} (q : te σ H fun x H1 => ∃ p xs, x = V.ref p ∧ (SqT K H1 p xs ∨ SqL K H1 p xs) ∧ t σ H1 fun ys H2 => QA (xs ++ ys) H2) : StX.tStar K te t σ H QA := q
theorem r_statT (q : ta σ H fun x H1 => x = .ref C ∧ t σ H1 fun vs H2 => sp vs H2 Q E) : tStat C sp E ta t σ H Q := q
/-- a field whose place is known -/
theorem fld_of {a dx : Addr} {fs : List (Str × V)} {v : V} (h : H a = some (.ins C dx fs)) (cl : Cls K C) (n : NoAttr K C f) (l : fs.lookup f = some v) (q : Q v H) : ∃ a' C' dx' fs' v', V.ref a = .ref a' ∧ H a' = some (.ins C' dx' fs') ∧ Cls K C' ∧ NoAttr K C' f ∧ fs'.lookup f = some v' ∧ Q v' H := ⟨a, C, dx, fs, v, rfl, h, cl, n, l, q⟩
end
/-! ### enumerate of what stands in a slot -/
theorem r_enumV {K : PySem.W.Frag} {σ : L2.St} {H : Hp} {R : It → Hp → Prop} {i : Nat} {a : Addr} {xs : List V} {H0 : Hp} (hv : σ[i]? = some (some (.ref a))) (h : SqA K H0 a xs) (e0 : Evl.Ex H0 H)
    (q : ∀ (J : It) (G : Hp → Prop), L2.Walk J xs.length G (fun i H v H' => ∃ T x, v = .ref T ∧ H T = none ∧ H' = upd H T (.tup [.int (i : Nat), x]) ∧ xs[i]? = some x) → (∀ H', Evl.Ex H0 H' → G H') → R J H) : iEnumA K (tCons (tVar i) tNil) σ H R := by
  refine r_enumA (r_cons (r_var hv (r_nil ⟨a, xs, rfl, ?_⟩)))
  rcases h with h | h
  · exact .inr ⟨Evl.ex_l e0 h, q _ _ walk_enumL fun H' e => Evl.ex_l e h⟩
  · exact .inl ⟨Evl.ex_t e0 h, q _ _ walk_enumT fun H' e => Evl.ex_t e h⟩
/-! ### what is new -/
theorem nov_mono {H H1 H2 : Hp} (e : Evl.Ex H1 H2) : Evl.Ex (nov H H1) (nov H H2) := fun a o h => by
  obtain ⟨h1, h2⟩ := nov_get h
  exact nov_of h1 (e _ _ h2)
theorem nov_base {H0 H1 H2 : Hp} (d : ∀ a, H1 a = none → H0 a = none) : Evl.Ex (nov H1 H2) (nov H0 H2) := fun a o h => by
  obtain ⟨h1, h2⟩ := nov_get h
  exact nov_of (d _ h1) h2
theorem ex_dom {H H' : Hp} (e : Evl.Ex H H') {a : Addr} (h : H' a = none) : H a = none := by
  cases q : H a with
  | none => rfl
  | some o => rw [e _ _ q] at h; cases h
theorem prAt_upd {H H' : Hp} {p : Addr} {o : HO} {ts : List Addr} {ps : Prs} (h : PrAt (nov H H') ts ps) (hp : ∀ xs, H' p ≠ some (.tup xs)) : PrAt (nov H (upd H' p o)) ts ps :=
  Paired.monoP (fun t q e => by
    obtain ⟨h1, h2⟩ := nov_get e
    have ne : t ≠ p := fun z => hp _ (z ▸ h2)
    exact nov_of h1 (by rw [upd_ne ne]; exact h2)) h
end WP

set_option Elab.async false
set_option linter.all false
set_option maxRecDepth 100000
set_option maxHeartbeats 400000
/-! the class Family: what the written part says, the promises -/
namespace WP
open PySem PySem.Spec PyProof.Rows L2
def btys : List String := ["list", "tuple", "NoneType", "bool", "int", "str"]
structure FamT (K : PySem.W.Frag) (C : Addr) : Prop where
  cl : Cls K C
  nP : NoAttr K C "parents"
  nD : NoAttr K C "declared"
  cls : PySem.W.findIn K (.ref C) "__class__" = some (some (.builtin "object.__class__"))
  get : PySem.W.specialIn K (.builtin "object.__class__") "__get__" = some (some (.builtin "getset_descriptor.__get__"))
  tk : PySem.W.takesIn K (.builtin "object.__class__") = some true
  mro : PySem.W.mroIn K C (.type "object") = some true
  one : PySem.W.kitOne K (.ref C) (.ref C) = some true
  bt : ∀ T ∈ btys, PySem.W.kitOne K (.type T) (.ref C) = some false ∧ AddT K C T
  ne : PySem.W.findIn K (.ref C) "__ne__" = some (some (.builtin "object.__ne__"))
def addB (K : PySem.W.Frag) (C : Addr) (T : String) : Bool := PySem.W.selfFirst K C && (He.eqO (PySem.W.findIn K (.ref C) (dunderR "add")) (some none) && ((PySem.W.findIn K (.type T) (PySem.dunder "add")).isSome && ((PySem.W.findIn K (.type T) (dunderR "add")).isSome && decide (PySem.W.subIn K (.type T) (.ref C) = some false))))
def famB (K : PySem.W.Frag) (C : Addr) : Bool := He.eqO (PySem.W.findIn K (.ref C) "__class__") (some (some (.builtin "object.__class__"))) && (He.eqO (PySem.W.specialIn K (.builtin "object.__class__") "__get__") (some (some (.builtin "getset_descriptor.__get__"))) && (decide (PySem.W.takesIn K (.builtin "object.__class__") = some true) &&
  (decide (PySem.W.mroIn K C (.type "object") = some true) && (decide (PySem.W.kitOne K (.ref C) (.ref C) = some true) && ((btys.all fun T => decide (PySem.W.kitOne K (.type T) (.ref C) = some false) && addB K C T) && He.eqO (PySem.W.findIn K (.ref C) "__ne__") (some (some (.builtin "object.__ne__"))))))))
theorem famT_of {K : PySem.W.Frag} {C : Addr} (cl : Cls K C) (nP : NoAttr K C "parents") (nD : NoAttr K C "declared") (h : famB K C = true) : FamT K C := by
  unfold famB at h
  obtain ⟨h1, h⟩ := Bool.and_eq_true_iff.mp h
  obtain ⟨h2, h⟩ := Bool.and_eq_true_iff.mp h
  obtain ⟨h3, h⟩ := Bool.and_eq_true_iff.mp h
  obtain ⟨h4, h⟩ := Bool.and_eq_true_iff.mp h
  obtain ⟨h5, h⟩ := Bool.and_eq_true_iff.mp h
  obtain ⟨h6, h7⟩ := Bool.and_eq_true_iff.mp h
  refine ⟨cl, nP, nD, He.eqO_ok h1, He.eqO_ok h2, of_decide_eq_true h3, of_decide_eq_true h4, of_decide_eq_true h5, fun T hT => ?_, He.eqO_ok h7⟩
  have := List.all_eq_true.mp h6 T hT
  obtain ⟨k1, k⟩ := Bool.and_eq_true_iff.mp this
  unfold addB at k
  obtain ⟨k2, k⟩ := Bool.and_eq_true_iff.mp k
  obtain ⟨k3, k⟩ := Bool.and_eq_true_iff.mp k
  obtain ⟨k4, k⟩ := Bool.and_eq_true_iff.mp k
  obtain ⟨k5, k6⟩ := Bool.and_eq_true_iff.mp k
  exact ⟨of_decide_eq_true k1, k2, He.eqO_ok k3, Option.isSome_iff_exists.mp k4, Option.isSome_iff_exists.mp k5, of_decide_eq_true k6⟩
section
variable {K : PySem.W.Frag} {C BF : Addr} {H : Hp}
theorem dp_ty {v : V} {d : PyData} (h : Dp K H v d) : ∃ T ∈ btys, TyX K H v (.type T) := by
  cases h with
  | non => exact ⟨"NoneType", by decide, TyX.base .non⟩
  | bl b => exact ⟨"bool", by decide, TyX.base (.bl b)⟩
  | int i => exact ⟨"int", by decide, TyX.base (.int i)⟩
  | str z => exact ⟨"str", by decide, TyX.base (.str z)⟩
  | lst s r => exact ⟨"list", by decide, ty_lst s⟩
  | tup s r => exact ⟨"tuple", by decide, ty_tup s⟩
theorem FamT.ty (T : FamT K C) {x dx : Addr} {fs : List (Str × V)} (h : H x = some (.ins C dx fs)) : TyX K H (.ref x) (.ref C) := TyX.base (.ins h T.cl T.cls T.get T.tk T.mro)
theorem FamT.nf (T : FamT K C) {t : String} (h : t ∈ btys) : PySem.W.notFirst K C (.type t) = true := by
  unfold PySem.W.notFirst
  rw [(T.bt t h).2.sub]
  simp
theorem FamT.nfo : PySem.W.notFirst K C (.ref C) = true := by
  unfold PySem.W.notFirst
  simp
/-! ### the promises -/
def shortD : PyData → Prop
  | .list xs => xs.length ≤ 1000
  | .tuple xs => xs.length ≤ 1000
  | _ => True
def spInit (K : PySem.W.Frag) (C BF : Addr) : Sp := fun vs H Q E => ∃ (x dx : Addr) (v : V) (d : PyData), vs = [.ref x, v] ∧ H x = some (.ins C dx []) ∧ Dp K H v d ∧ fit d = true ∧ shortD d ∧
  (∀ k : Int, famOf d = .inl k → ∀ (H' : Hp) (dd : Addr), Evl.Ex H H' → H' dd = none → E (.ref BF) (some dd) (upd H' dd (.xd [("at", .int k)]))) ∧
  (∀ ps, famOf d = .inr ps → ∀ (H' : Hp) (P T : Addr) (ts : List Addr), FamOk ps → ps.length ≤ 1000 → Evl.Ex H H' → H P = none → H T = none → H' P = some (.dK (famKvs ps)) → H' T = some (.tup (ts.map V.ref)) → PrAt (nov H H') ts ps →
    Q .non (upd H' x (.ins C dx [("parents", .ref P), ("declared", .ref T)])))
def spMk (K : PySem.W.Frag) (C BF : Addr) (v : V) (d : PyData) (H : Hp) (Q : Addr → Hp → Prop) (E : XK) : Prop := Dp K H v d ∧ fit d = true ∧ shortD d ∧
  (∀ k : Int, famOf d = .inl k → ∀ (H' : Hp) (dd : Addr), Evl.Ex H H' → H' dd = none → E (.ref BF) (some dd) (upd H' dd (.xd [("at", .int k)]))) ∧
  (∀ ps, famOf d = .inr ps → ∀ (y : Addr) (H' : Hp), Evl.Ex H H' → IsFam K C (nov H H') y ps → Q y H')
theorem mk_fam {v : V} {d : PyData} {Q : Addr → Hp → Prop} {E : XK} (h : spMk K C BF v d H Q E) : ∀ x dx, H x = none → H dx = none → dx ≠ x → spInit K C BF (.ref x :: ([v] ++ [])) (upd (upd H dx (.own x)) x (.ins C dx [])) (fun v H2 => v = .non ∧ Q x H2) E := by
  obtain ⟨hd, hf, hs, k1, k2⟩ := h
  intro x dx hx hdx hne
  have e1 : Evl.Ex H (upd (upd H dx (.own x)) x (.ins C dx [])) := (Evl.Ex.new hdx).trans (Evl.Ex.new (by rw [upd_ne hne.symm]; exact hx))
  refine ⟨x, dx, v, d, rfl, upd_same, Dp.mono e1 hd, hf, hs, fun k hk H' dd e hdd => k1 k hk H' dd (e1.trans e) hdd, fun ps hps H' P T ts ok few e hP hT h1 h2 h3 => ⟨rfl, ?_⟩⟩
  have neP : P ≠ x := fun z => by rw [z, upd_same] at hP; cases hP
  have neT : T ≠ x := fun z => by rw [z, upd_same] at hT; cases hT
  refine k2 ps hps x _ ?_ ⟨ok, few, dx, P, T, ts, ?_, ?_, ?_, ?_⟩
  · exact Evl.Ex.mut (e1.trans e) hx
  · exact nov_of hx upd_same
  · exact nov_of (ex_dom e1 hP) (by rw [upd_ne neP]; exact h1)
  · exact nov_of (ex_dom e1 hT) (by rw [upd_ne neT]; exact h2)
  · refine Paired.monoP (fun t q z => ?_) h3
    obtain ⟨z1, z2⟩ := nov_get z
    have net : t ≠ x := fun z => by rw [z, upd_same] at z1; cases z1
    exact nov_of (ex_dom e1 z1) (by rw [upd_ne net]; exact z2)
def spFits (K : PySem.W.Frag) : Sp := fun vs H Q _ => ∃ (D : Addr) (v : V) (d : PyData) (ps : Prs), vs = [.ref D, v] ∧ H D = some (.dK (famKvs ps)) ∧ Dp K H v d ∧ fit d = true ∧ ∀ H', Evl.Ex H H' → Q (.bl (fitsP (famKeys ps) d).isSome) H'
def spNames (K : PySem.W.Frag) (C : Addr) : Sp := fun vs H Q _ => ∃ (x : Addr) (ps : Prs), vs = [.ref x] ∧ IsFam K C H x ps ∧ ∀ l, H l = none → Q (.ref l) (upd H l (.lst ((famKeys ps).map V.str)))
def spParent (K : PySem.W.Frag) (C : Addr) : Sp := fun vs H Q _ => ∃ (x : Addr) (ps : Prs) (n : Str) (v : V), vs = [.ref x, .str n] ∧ IsFam K C H x ps ∧ valV (famKvs ps) (Sum.inr n) = some v ∧ Q v H
def inFam (ps : Prs) : PyData → Bool
  | .str z => decide (z ∈ famKeys ps)
  | _ => false
def spContains (K : PySem.W.Frag) (C : Addr) : Sp := fun vs H Q _ => ∃ (x : Addr) (ps : Prs) (v : V) (d : PyData), vs = [.ref x, v] ∧ IsFam K C H x ps ∧ Dp K H v d ∧ Q (.bl (inFam ps d)) H
def spLenF (K : PySem.W.Frag) (C : Addr) : Sp := fun vs H Q _ => ∃ (x : Addr) (ps : Prs), vs = [.ref x] ∧ IsFam K C H x ps ∧ Q (.int (4 + ps.length : Nat)) H
def spEqF (K : PySem.W.Frag) (C : Addr) : Sp := fun vs H Q _ => ∃ (x : Addr) (ps : Prs) (v : V), vs = [.ref x, v] ∧ IsFam K C H x ps ∧ ((∃ y qs, v = .ref y ∧ IsFam K C H y qs ∧ Q (.bl (decide (ps = qs))) H) ∨ ∃ d, Dp K H v d ∧ Q (.bl false) H)
def spAddF (K : PySem.W.Frag) (C BF : Addr) : Sp := fun vs H Q E => ∃ (x : Addr) (ps : Prs) (v : V) (d : PyData), vs = [.ref x, v] ∧ IsFam K C H x ps ∧ ps.length ≤ 900 ∧ Dp K H v d ∧ fit d = true ∧
  (fitsP (famKeys ps) d = none → ∀ (H' : Hp) (dd : Addr), Evl.Ex H H' → H' dd = none → E (.ref BF) (some dd) (upd H' dd (.xd [("at", .int (ps.length : Nat))]))) ∧
  (∀ q, fitsP (famKeys ps) d = some q → ∀ (y : Addr) (H' : Hp), Evl.Ex H H' → IsFam K C (nov H H') y (ps ++ [q]) → Q (.ref y) H')
def spPlain (K : PySem.W.Frag) (C : Addr) : Sp := fun vs H Q _ => vs = [] ∧ ∀ (y : Addr) (H' : Hp), Evl.Ex H H' → IsFam K C (nov H H') y [] → Q (.ref y) H'
theorem PrAt.snoc {H : Hp} {ts : List Addr} {ps : Prs} {t : Addr} {q : Str × Str} (h : PrAt H ts ps) (ht : H t = some (.tup [.str q.1, .str q.2])) : PrAt H (ts ++ [t]) (ps ++ [q]) := by
  unfold PrAt at *
  induction h with
  | nil => exact .cons ht .nil
  | cons a r ih => exact .cons a ih
/-! ### uses -/
variable {Q : VK} {E : XK}
theorem IsFam.ins {x : Addr} {ps : Prs} (h : IsFam K C H x ps) : ∃ dx P T, H x = some (.ins C dx [("parents", .ref P), ("declared", .ref T)]) := by
  obtain ⟨dx, P, T, ts, h1, _⟩ := h.ex
  exact ⟨dx, P, T, h1⟩
theorem u_len {x : Addr} {ps : Prs} (h : IsFam K C H x ps) (q : Q (.int (4 + ps.length : Nat)) H) : rLenO C (spLenF K C) E [.ref x] H Q := by
  obtain ⟨dx, P, T, h1⟩ := h.ins
  have := h.few
  exact ⟨x, dx, _, rfl, h1, x, ps, rfl, h, 4 + ps.length, rfl, by omega, q⟩
theorem u_in {x : Addr} {ps : Prs} {v : V} {d : PyData} (h : IsFam K C H x ps) (hd : Dp K H v d) (q : Q (.bl (inFam ps d)) H) : rInO C (spContains K C) E v (.ref x) H Q := by
  obtain ⟨dx, P, T, h1⟩ := h.ins
  exact ⟨x, dx, _, rfl, h1, x, ps, v, d, rfl, h, hd, _, rfl, q⟩
theorem u_eq {x y : Addr} {ps qs : Prs} {neg : Bool} (T : FamT K C) (h : IsFam K C H x ps) (h' : IsFam K C H y qs) (q : Q (.bl (if neg then !decide (ps = qs) else decide (ps = qs))) H) : rEqO K C (spEqF K C) E neg (.ref x) (.ref y) H Q := by
  obtain ⟨dx, P, _, h1⟩ := h.ins
  obtain ⟨dy, P', _, h1'⟩ := h'.ins
  exact ⟨x, dx, _, _, rfl, h1, T.ty h1', FamT.nfo, x, ps, _, rfl, h, .inl ⟨y, qs, rfl, h', _, rfl, q⟩⟩
theorem u_eqD {x : Addr} {ps : Prs} {v : V} {d : PyData} {neg : Bool} (T : FamT K C) (h : IsFam K C H x ps) (hd : Dp K H v d) (q : Q (.bl (if neg then !false else false)) H) : rEqO K C (spEqF K C) E neg (.ref x) v H Q := by
  obtain ⟨dx, P, _, h1⟩ := h.ins
  obtain ⟨t, ht, ty⟩ := dp_ty hd
  exact ⟨x, dx, _, _, rfl, h1, ty, T.nf ht, x, ps, _, rfl, h, .inr ⟨d, hd, _, rfl, q⟩⟩
theorem u_add {x : Addr} {ps : Prs} {v : V} {d : PyData} (T : FamT K C) (h : IsFam K C H x ps) (hl : ps.length ≤ 900) (hd : Dp K H v d) (hf : fit d = true)
    (q1 : fitsP (famKeys ps) d = none → ∀ (H' : Hp) (dd : Addr), Evl.Ex H H' → H' dd = none → E (.ref BF) (some dd) (upd H' dd (.xd [("at", .int (ps.length : Nat))])))
    (q2 : ∀ q, fitsP (famKeys ps) d = some q → ∀ (y : Addr) (H' : Hp), Evl.Ex H H' → IsFam K C (nov H H') y (ps ++ [q]) → Q (.ref y) H') : rAddO K C (spAddF K C BF) E (.ref x) v H Q := by
  obtain ⟨dx, P, _, h1⟩ := h.ins
  obtain ⟨t, ht, ty⟩ := dp_ty hd
  exact ⟨x, dx, _, t, rfl, h1, ty, (T.bt t ht).2, x, ps, v, d, rfl, h, hl, hd, hf, q1, fun q hq y H' e hy => ⟨⟨y, rfl⟩, q2 q hq y H' e hy⟩⟩
/-- o.m(..) of a family -/
theorem u_meth {x : Addr} {ps : Prs} {m : Str} (h : IsFam K C H x ps) (hm : m ≠ "parents" ∧ m ≠ "declared") {R : Prop} (q : R) : ∃ a dx fs, V.ref x = .ref a ∧ H a = some (.ins C dx fs) ∧ fs.lookup m = none ∧ R := by
  obtain ⟨dx, P, T, h1⟩ := h.ins
  refine ⟨x, dx, _, rfl, h1, ?_, q⟩
  rw [List.lookup_cons, beq_false_of_ne hm.1, List.lookup_cons, beq_false_of_ne hm.2]
  rfl
/-- x.declared, x.parents -/
theorem u_dec {QV : V → Prop} (T : FamT K C) {x : Addr} {ps : Prs} (h : IsFam K C H x ps) (q : ∀ (D : Addr) (ts : List Addr), H D = some (.tup (ts.map V.ref)) → PrAt H ts ps → QV (.ref D)) : ∃ a' C' dx' fs' v', V.ref x = .ref a' ∧ H a' = some (.ins C' dx' fs') ∧ Cls K C' ∧ NoAttr K C' "declared" ∧ fs'.lookup ("declared" : Str) = some v' ∧ QV v' := by
  obtain ⟨dx, P, D, ts, h1, h2, h3, h4⟩ := h.ex
  exact ⟨x, C, dx, _, _, rfl, h1, T.cl, T.nD, by rfl, q D ts h3 h4⟩
theorem u_par {QV : V → Prop} (T : FamT K C) {x : Addr} {ps : Prs} (h : IsFam K C H x ps) (q : ∀ D : Addr, H D = some (.dK (famKvs ps)) → QV (.ref D)) : ∃ a' C' dx' fs' v', V.ref x = .ref a' ∧ H a' = some (.ins C' dx' fs') ∧ Cls K C' ∧ NoAttr K C' "parents" ∧ fs'.lookup ("parents" : Str) = some v' ∧ QV v' := by
  obtain ⟨dx, P, D, ts, h1, h2, h3, h4⟩ := h.ex
  exact ⟨x, C, dx, _, _, rfl, h1, T.cl, T.nP, by rfl, q P h2⟩
theorem dec_dp {D : Addr} {ts : List Addr} {ps : Prs} (h : H D = some (.tup (ts.map V.ref))) (hp : PrAt H ts ps) : Dp K H (.ref D) (decD ps) := .tup (SqT.of h) hp.dp
theorem r_isiLT_A {Q : VK} {p tp : Addr} {xs : List V} (ht : H tp = some (.tup [.ty "list", .ty "tuple"])) (h : SqA K H p xs) (q : Q (.bl true) H) : rIsiT K [(.ref p), .ref tp] H Q := by
  rcases h with h | h
  · exact r_isiLT_lst ht h q
  · exact r_isiLT_tup ht h q
/-- what may be handed to Family -/
theorem seq_or {v : V} {d : PyData} (hd : Dp K H v d) (hf : fit d = true) (hs : shortD d) : (famOf d = .inl (-1) ∧ ∀ (tp : Addr) (H' : Hp), H' tp = some (.tup [.ty "list", .ty "tuple"]) → ∀ Q : VK, Q (.bl false) H' → rIsiT K [v, .ref tp] H' Q) ∨
    ∃ a xs ds, v = .ref a ∧ SqA K H a xs ∧ DpAll K H xs ds ∧ fitAll ds = true ∧ ds.length ≤ 1000 ∧ (∀ k : Nat, famD [] ds = .inl k → famOf d = .inl (k : Int)) ∧ ∀ ps, famD [] ds = .inr ps → famOf d = .inr ps := by
  cases hd with
  | non => exact .inl ⟨rfl, fun tp H' h Q q => r_isiLT_non h q⟩
  | bl b => exact .inl ⟨rfl, fun tp H' h Q q => r_isiLT_bl h q⟩
  | int i => exact .inl ⟨rfl, fun tp H' h Q q => r_isiLT_int h q⟩
  | str z => exact .inl ⟨rfl, fun tp H' h Q q => r_isiLT_str h q⟩
  | @lst a xs ds s r => exact .inr ⟨a, xs, ds, rfl, .inl s, r, (fit_list hf).2, hs, fun k h => by simp only [famOf, h], fun k h => by simp only [famOf, h]⟩
  | @tup a xs ds s r => exact .inr ⟨a, xs, ds, rfl, .inr s, r, (fit_tuple hf).2, hs, fun k h => by simp only [famOf, h], fun k h => by simp only [famOf, h]⟩
theorem fits_inv {v : V} {d : PyData} {ns : List Str} {q : Str × Str} (hd : Dp K H v d) (h : fitsP ns d = some q) : ∃ p v2, v = .ref p ∧ SqT K H p [.str q.1, v2] ∧ ((v2 = .non ∧ q.2 = "Error") ∨ v2 = .str q.2) := by
  unfold fitsP at h
  split at h
  · rename_i n
    split at h
    · cases h
      cases hd with
      | tup s r =>
        cases r with
        | cons r1 r =>
        cases r with
        | cons r2 r =>
        cases r
        cases r1
        cases r2
        exact ⟨_, _, rfl, s, .inl ⟨rfl, rfl⟩⟩
    · cases h
  · rename_i n p
    split at h
    · cases h
      cases hd with
      | tup s r =>
        cases r with
        | cons r1 r =>
        cases r with
        | cons r2 r =>
        cases r
        cases r1
        cases r2
        exact ⟨_, _, rfl, s, .inr rfl⟩
    · cases h
  · cases h
end
end WP

set_option Elab.async false
set_option linter.all false
set_option maxRecDepth 100000
set_option maxHeartbeats 400000
/-! families: what is under what; extending; the law's raw pairs -/
namespace WP
open PySem PySem.Spec PyProof.Rows L2
theorem valV_memK {kvs : List (Key × V)} {k : Key} {v : V} (h : valV kvs k = some v) : (k, v) ∈ kvs := by
  induction kvs with
  | nil => rw [valV_nil] at h; cases h
  | cons p r ih =>
    by_cases e : p.1 = k
    · rw [valV_pos e] at h
      cases h
      rw [← e]
      exact List.mem_cons_self ..
    · rw [valV_neg e] at h
      exact List.mem_cons_of_mem _ (ih h)
theorem fam_vals {ps : Prs} {n : Str} {v : V} (h : valV (famKvs ps) (Sum.inr n) = some v) : (v = .non ∧ n = "Error") ∨ ∃ m, v = .str m ∧ ((n, m) ∈ [(("Failed" : Str), ("Error" : Str)), ("Misuse", "Error"), ("Beyond", "Misuse")] ∨ (n, m) ∈ ps) := by
  have := valV_memK h
  unfold famKvs at this
  rcases List.mem_append.mp this with h | h
  · unfold kvs4 at h
    simp only [List.mem_cons, List.not_mem_nil, or_false] at h
    rcases h with h | h | h | h <;> injection h with h1 h2 <;> injection h1 with h1 <;> subst h1 h2
    · exact .inl ⟨rfl, rfl⟩
    · exact .inr ⟨_, rfl, .inl (by simp)⟩
    · exact .inr ⟨_, rfl, .inl (by simp)⟩
    · exact .inr ⟨_, rfl, .inl (by simp)⟩
  · obtain ⟨q, hq, e⟩ := List.mem_map.mp h
    injection e with e1 e2
    injection e1 with e1
    subst e1 e2
    exact .inr ⟨q.2, rfl, .inr hq⟩
/-- the class that a class is directly under; unknown ones are under Error -/
def parO (ps : Prs) (n : Str) : Option Str := match valV (famKvs ps) (Sum.inr n) with
  | some (.str m) => some m
  | some _ => none
  | none => some "Error"
def optV : Option Str → V
  | some m => .str m
  | none => .non
theorem parO_get (ps : Prs) (n : Str) : (valV (famKvs ps) (Sum.inr n)).getD (.str "Error") = optV (parO ps n) := by
  unfold parO
  cases h : valV (famKvs ps) (Sum.inr n) with
  | none => rfl
  | some v =>
    rcases fam_vals h with ⟨rfl, _⟩ | ⟨m, rfl, _⟩
    · rfl
    · rfl
def rk (ps : Prs) (n : Str) : Nat := (famKeys ps).idxOf n
theorem rk_lt {ps : Prs} (ok : FamOk ps) {n m : Str} (h : parO ps n = some m) : rk ps m < rk ps n := by
  unfold parO at h
  cases hv : valV (famKvs ps) (Sum.inr n) with
  | none =>
    rw [hv] at h
    cases h
    have hn : n ∉ famKeys ps := fun z => by
      obtain ⟨v, e⟩ := fam_getv z
      rw [hv] at e
      cases e
    have h1 : rk ps n = (famKeys ps).length := List.idxOf_eq_length hn
    have h2 : rk ps ("Error" : Str) = 0 := by
      unfold rk famKeys names4
      rw [List.cons_append, List.idxOf_cons_self]
    rw [h1, h2, famKeys_length]
    omega
  | some v =>
    rw [hv] at h
    rcases fam_vals hv with ⟨rfl, _⟩ | ⟨m', rfl, hm⟩
    · cases h
    · have e : m' = m := Option.some.inj h
      subst e
      rcases hm with hm | hm
      · have r4 : ∀ z ∈ names4, rk ps z = names4.idxOf z := fun z hz => by
          unfold rk famKeys
          rw [List.idxOf_append, if_pos hz]
        have hd : ∀ q ∈ [(("Failed" : Str), ("Error" : Str)), ("Misuse", "Error"), ("Beyond", "Misuse")], q.1 ∈ names4 ∧ q.2 ∈ names4 ∧ names4.idxOf q.2 < names4.idxOf q.1 := by decide +kernel
        obtain ⟨a, b, c⟩ := hd _ hm
        rw [r4 _ a, r4 _ b]
        exact c
      · obtain ⟨i, hi, e⟩ := List.getElem_of_mem hm
        have hi2 : ps[i]? = some (n, m') := by rw [List.getElem?_eq_getElem hi, e]
        have h1 : m' ∈ famKeys (ps.take i) := ok.ord i _ hi2
        have split : famKeys ps = famKeys (ps.take i) ++ (ps.drop i).map (·.1) := by
          unfold famKeys
          rw [List.append_assoc, ← List.map_append, List.take_append_drop]
        have hn : n ∈ (ps.drop i).map (·.1) := by
          rw [List.drop_eq_getElem_cons hi, e]
          exact List.mem_cons_self ..
        have hn2 : n ∉ famKeys (ps.take i) := fun z => by
          have := ok.nd
          rw [split, List.nodup_append] at this
          exact this.2.2 n z n hn rfl
        unfold rk
        rw [split, List.idxOf_append, if_pos h1, List.idxOf_append, if_neg hn2]
        have := List.idxOf_lt_length_of_mem h1
        omega
def chainF (ps : Prs) : Nat → Str → List Str
  | 0, _ => []
  | k + 1, n => n :: match parO ps n with
    | some m => chainF ps k m
    | none => []
def chain (ps : Prs) (n : Str) : List Str := chainF ps (rk ps n + 1) n
theorem chainF_ge {ps : Prs} (ok : FamOk ps) : ∀ (k : Nat) (n : Str), rk ps n < k → chainF ps k n = chain ps n := by
  intro k
  induction k with
  | zero => intro n h; omega
  | succ k ih =>
    intro n h
    unfold chain
    show (n :: match parO ps n with | some m => chainF ps k m | none => []) = (n :: match parO ps n with | some m => chainF ps (rk ps n) m | none => [])
    cases e : parO ps n with
    | none => rfl
    | some m =>
      have hm := rk_lt ok e
      show n :: chainF ps k m = n :: chainF ps (rk ps n) m
      rw [ih m (by omega)]
      congr 1
      unfold chain
      have aux : ∀ (j k' : Nat) (z : Str), rk ps z < j → rk ps z < k' → chainF ps j z = chainF ps k' z := by
        intro j
        induction j with
        | zero => intro k' z h; omega
        | succ j ihj =>
          intro k' z h1 h2
          cases k' with
          | zero => omega
          | succ k' =>
            show (z :: match parO ps z with | some m => chainF ps j m | none => []) = (z :: match parO ps z with | some m => chainF ps k' m | none => [])
            cases e2 : parO ps z with
            | none => rfl
            | some m2 =>
              have := rk_lt ok e2
              show z :: chainF ps j m2 = z :: chainF ps k' m2
              rw [ihj k' m2 (by omega) (by omega)]
      exact aux _ _ m (by omega) (by omega)
theorem chain_eq {ps : Prs} (ok : FamOk ps) (n : Str) : chain ps n = n :: match parO ps n with
    | some m => chain ps m
    | none => [] := by
  show (n :: match parO ps n with | some m => chainF ps (rk ps n) m | none => []) = _
  cases e : parO ps n with
  | none => rfl
  | some m =>
    show n :: chainF ps (rk ps n) m = n :: chain ps m
    rw [chainF_ge ok _ _ (rk_lt ok e)]
/-! ### a family over its own pairs; one more -/
theorem fam_self : ∀ {qs acc : Prs}, FamOk (acc ++ qs) → famD acc (qs.map prD) = .inr (acc ++ qs)
  | [], acc, _ => by rw [List.append_nil]; rfl
  | q :: r, acc, ok => by
    rw [List.map_cons, famD_cons]
    have h1 : ClsN q.1 := ok.cl _ (by unfold famKeys; simp)
    have hk : famKeys (acc ++ q :: r) = famKeys acc ++ q.1 :: r.map (·.1) := by unfold famKeys; simp
    have h2 : q.1 ∉ famKeys acc := fun z => by
      have := ok.nd
      rw [hk, List.nodup_append] at this
      exact this.2.2 _ z _ (List.mem_cons_self ..) rfl
    have h3 : q.2 ∈ famKeys acc := by
      have := ok.ord acc.length q (by rw [List.getElem?_append_right (Nat.le_refl _), Nat.sub_self]; rfl)
      rw [List.take_append_of_le_length (Nat.le_refl _), List.take_length] at this
      exact this
    rw [prD_fits h1 h2 h3]
    show famD (acc ++ [q]) (r.map prD) = _
    have e : acc ++ q :: r = (acc ++ [q]) ++ r := by simp
    rw [fam_self (by rw [← e]; exact ok), ← e]
theorem fam_more {ps : Prs} (ok : FamOk ps) (d : PyData) : famD [] (ps.map prD ++ [d]) = match fitsP (famKeys ps) d with
    | some q => .inr (ps ++ [q])
    | none => .inl ps.length := by
  have h : famD [] (ps.map prD) = .inr ps := fam_self (acc := []) ok
  rw [famD_app h, famD_cons]
  cases fitsP (famKeys ps) d <;> rfl
theorem famOf_lL {xs : List PyData} {k : Nat} (h : famD [] xs = .inl k) : famOf (.list xs) = .inl (k : Int) := by simp only [famOf, h]
theorem famOf_lR {xs : List PyData} {ps : Prs} (h : famD [] xs = .inr ps) : famOf (.list xs) = .inr ps := by simp only [famOf, h]
theorem famOf_tL {xs : List PyData} {k : Nat} (h : famD [] xs = .inl k) : famOf (.tuple xs) = .inl (k : Int) := by simp only [famOf, h]
theorem famOf_tR {xs : List PyData} {ps : Prs} (h : famD [] xs = .inr ps) : famOf (.tuple xs) = .inr ps := by simp only [famOf, h]
theorem fnokQ_of {P : Program} {w : World} {K : PySem.W.Frag} {mg : Str → Option Value} {base : Heap} {m qual : Str} {st : Stmt} {f : Addr} {fd : FuncData} {N ps : List Str} {k : Nat} {sp : Sp} (F : FunD K m qual (defArgs st) (defBody st) (defScope st) [] [] f fd) (S : FnScope N ps (defScope st)) (len : ∀ vs H Q E, sp vs H Q E → vs.length = ps.length)
    (hbody : ∀ (cdv : Value) (A : Around) (outer : List Env) (s : Shared) (H : Hp) (vs : List V) (Q : VK) (E : XK), Room k (A.deeper (envOfC qual (defScope st) s.heap.objs.size f cdv)) → sp vs H Q E →
      ∃ t, PSs (cxOf L2.CX0 P w K mg base N qual (defScope st) f cdv A outer s H E).nox (defBody st) t ∧ t { nx := fun _ H' => Q .non H', rt := Q } (start N vs) H) : FnOk P w K mg base L2.CX0 (k + 1) f fd ps sp := by
  refine F.ok S len fun cdv A outer s H vs Q E hr hsp => ?_
  obtain ⟨t, h, q⟩ := hbody cdv A outer s H vs Q E hr hsp
  exact ⟨t, h.nox, q⟩
/-! ### the law's raw pairs: the parent may be None -/
abbrev Raw := List (Str × Option Str)
def rawD (q : Str × Option Str) : PyData := .tuple [.str q.1, match q.2 with
  | some m => .str m
  | none => .none]
def rawN (q : Str × Option Str) : Str × Str := (q.1, q.2.getD "Error")
theorem rawD_fits {ns : List Str} {q : Str × Option Str} (h1 : ClsN q.1) (h2 : q.1 ∉ ns) (h3 : ∀ m, q.2 = some m → m ∈ ns) : fitsP ns (rawD q) = some (rawN q) := by
  obtain ⟨n, o⟩ := q
  cases o with
  | none =>
    show (if isClsS n && !decide (n ∈ ns) then some (n, ("Error" : Str)) else none) = _
    rw [isCls_iff.mpr h1, decide_eq_false h2]
    rfl
  | some m =>
    show (if isClsS n && (!decide (n ∈ ns) && decide (m ∈ ns)) then some (n, m) else none) = _
    rw [isCls_iff.mpr h1, decide_eq_false h2, decide_eq_true (h3 m rfl)]
    rfl
structure RawOk (rs : Raw) : Prop where
  fam : famD [] (rs.map rawD) = .inr (rs.map rawN)
theorem RawOk.ok {rs : Raw} (h : RawOk rs) : FamOk (rs.map rawN) := (famD_ok fam_nil h.fam).1
theorem raw_nil : RawOk [] := ⟨rfl⟩
theorem RawOk.snoc {rs : Raw} {q : Str × Option Str} (h : RawOk rs) (h1 : ClsN q.1) (h2 : q.1 ∉ famKeys (rs.map rawN)) (h3 : ∀ m, q.2 = some m → m ∈ famKeys (rs.map rawN)) : RawOk (rs ++ [q]) := by
  refine ⟨?_⟩
  rw [List.map_append, List.map_append, famD_app h.fam]
  show famD (rs.map rawN) [rawD q] = _
  rw [famD_cons, rawD_fits h1 h2 h3]
  rfl
theorem raw_keys (rs : Raw) : famKeys (rs.map rawN) = names4 ++ rs.map (·.1) := by
  unfold famKeys
  rw [List.map_map]
  rfl
/-- the prefix of such a list -/
theorem famD_take : ∀ {xs : List PyData} {acc ps : Prs}, famD acc xs = .inr ps → ∀ i, i ≤ xs.length → famD acc (xs.take i) = .inr (ps.take (acc.length + i))
  | [], acc, ps, e, i, hi => by
    have e : (Sum.inr acc : Nat ⊕ Prs) = .inr ps := e
    cases e
    have : i = 0 := by simpa using hi
    subst this
    rw [List.take_nil, Nat.add_zero, List.take_length]
    rfl
  | d :: r, acc, ps, e, i, hi => by
    cases i with
    | zero =>
      rw [List.take_zero, Nat.add_zero]
      have aux : ∀ {xs : List PyData} {acc ps : Prs}, famD acc xs = .inr ps → ps.take acc.length = acc := by
        intro xs
        induction xs with
        | nil =>
          intro acc ps e
          have e : (Sum.inr acc : Nat ⊕ Prs) = .inr ps := e
          cases e
          exact List.take_length
        | cons d r ih =>
          intro acc ps e
          rw [famD_cons] at e
          cases hq : fitsP (famKeys acc) d with
          | none => rw [hq] at e; cases e
          | some q =>
            rw [hq] at e
            have := ih e
            have h2 : (ps.take (acc ++ [q]).length).take acc.length = acc := by
              rw [this, List.take_append_of_le_length (Nat.le_refl _), List.take_length]
            rw [List.take_take] at h2
            have h3 : min acc.length (acc ++ [q]).length = acc.length := by rw [List.length_append]; omega
            rw [h3] at h2
            exact h2
      rw [aux e]
      rfl
    | succ i =>
      rw [famD_cons] at e
      rw [List.take_succ_cons, famD_cons]
      cases hq : fitsP (famKeys acc) d with
      | none => rw [hq] at e; cases e
      | some q =>
        rw [hq] at e
        have := famD_take e i (by simpa using hi)
        rw [List.length_append, List.length_singleton] at this
        rw [Nat.add_assoc, Nat.add_comm 1 i] at this
        exact this
/-! ### the law's pairs in the heap -/
def RwAt (H : Hp) (ts : List Addr) (rs : Raw) : Prop := Paired (fun t q => H t = some (.tup [.str q.1, optV q.2])) ts rs
theorem RwAt.mono {H H' : Hp} (e : Evl.Ex H H') {ts : List Addr} {rs : Raw} (h : RwAt H ts rs) : RwAt H' ts rs := Paired.monoP (fun _ _ q => e _ _ q) h
theorem RwAt.length {H : Hp} {ts : List Addr} {rs : Raw} (h : RwAt H ts rs) : ts.length = rs.length := by
  unfold RwAt at h
  induction h with
  | nil => rfl
  | cons _ _ ih => rw [List.length_cons, List.length_cons, ih]
theorem RwAt.snoc {H : Hp} {ts : List Addr} {rs : Raw} {t : Addr} {q : Str × Option Str} (h : RwAt H ts rs) (ht : H t = some (.tup [.str q.1, optV q.2])) : RwAt H (ts ++ [t]) (rs ++ [q]) := by
  unfold RwAt at *
  induction h with
  | nil => exact .cons ht .nil
  | cons a r ih => exact .cons a ih
theorem rawD_dp {K : PySem.W.Frag} {H : Hp} {t : Addr} {q : Str × Option Str} (h : H t = some (.tup [.str q.1, optV q.2])) : Dp K H (.ref t) (rawD q) := by
  obtain ⟨n, o⟩ := q
  cases o with
  | none => exact .tup (SqT.of h) (.cons (.str _) (.cons .non .nil))
  | some m => exact .tup (SqT.of h) (.cons (.str _) (.cons (.str _) .nil))
theorem RwAt.dp {K : PySem.W.Frag} {H : Hp} {ts : List Addr} {rs : Raw} (h : RwAt H ts rs) : DpAll K H (ts.map V.ref) (rs.map rawD) := by
  unfold RwAt at h
  induction h with
  | nil => exact .nil
  | cons a r ih => exact .cons (rawD_dp a) ih
theorem RwAt.get {H : Hp} {ts : List Addr} {rs : Raw} (h : RwAt H ts rs) {i : Nat} {t : Addr} (ht : ts[i]? = some t) : ∃ q, rs[i]? = some q ∧ H t = some (.tup [.str q.1, optV q.2]) := by
  unfold RwAt at h
  induction h generalizing i with
  | nil => simp at ht
  | @cons a b xs ys p r ih =>
    cases i with
    | zero =>
      have : a = t := by simpa using ht
      subst this
      exact ⟨b, rfl, p⟩
    | succ i =>
      obtain ⟨q, h1, h2⟩ := ih (by simpa using ht)
      exact ⟨q, by simpa using h1, h2⟩
theorem RwAt.take {H : Hp} {ts : List Addr} {rs : Raw} (h : RwAt H ts rs) (i : Nat) : RwAt H (ts.take i) (rs.take i) := by
  unfold RwAt at *
  induction h generalizing i with
  | nil => simp only [List.take_nil]; exact .nil
  | cons a r ih =>
    cases i with
    | zero => exact .nil
    | succ i => exact .cons a (ih i)
theorem raw_cls {rs : Raw} (h : RawOk rs) : ∀ q ∈ rs, ClsN q.1 ∧ ∀ m, q.2 = some m → ClsN m := fun q hq => by
  have h1 := h.ok
  have h2 := h1.both (rawN q) (List.mem_map_of_mem hq)
  refine ⟨h2.1, fun m hm => ?_⟩
  have := h2.2
  unfold rawN at this
  rw [hm] at this
  exact this
theorem raw_fit {rs : Raw} (h : RawOk rs) : fitAll (rs.map rawD) = true := by
  refine fitAll_of fun d hd => ?_
  obtain ⟨q, hq, rfl⟩ := List.mem_map.mp hd
  obtain ⟨h1, h2⟩ := raw_cls h q hq
  obtain ⟨n, o⟩ := q
  have h1 : ClsN n := h1
  have l1 := h1.len
  cases o with
  | none =>
    unfold rawD
    rw [fit, fitAll, fitAll, fitAll, fit, fit, cls_ok h1, decide_eq_true (by omega : n.length ≤ 100000)]
    rfl
  | some m =>
    have h3 := h2 m rfl
    have l2 := h3.len
    unfold rawD
    rw [fit, fitAll, fitAll, fitAll, fit, fit, cls_ok h1, cls_ok h3, decide_eq_true (by omega : n.length ≤ 100000), decide_eq_true (by omega : m.length ≤ 100000)]
    rfl
/-! ### a text in a list of texts -/
theorem flat_strs (l : List Str) : (l.map V.str).all flatV = true := by
  rw [List.all_eq_true]
  intro v hv
  obtain ⟨z, _, rfl⟩ := List.mem_map.mp hv
  rfl
theorem inV_strs (z : Str) : ∀ l : List Str, inV (.str z) (l.map V.str) = decide (z ∈ l)
  | [] => by simp [inV]
  | k :: r => by
    have h := inV_strs z r
    unfold inV at h ⊢
    rw [List.map_cons, List.any_cons, h]
    have e : eqV (.str k) (.str z) = decide (z = k) := by
      unfold eqV
      by_cases e : k = z
      · subst e; simp
      · have e' : ¬ z = k := fun q => e q.symm
        simp [e, e']
    rw [e]
    by_cases h1 : z = k <;> by_cases h2 : z ∈ r <;> simp [h1, h2]
section
variable {K : PySem.W.Frag} {H : Hp} {Q : VK} {p : Addr} {z : Str} {l : List Str}
theorem r_notInStrs (h : SqA K H p (l.map V.str)) (q : Q (.bl (!decide (z ∈ l))) H) : rNotInA K (.str z) (.ref p) H Q := by
  refine .inr ⟨p, _, rfl, h, rfl, flat_strs l, ?_⟩
  rw [inV_strs]
  exact q
theorem r_inStrs (h : SqA K H p (l.map V.str)) (q : Q (.bl (decide (z ∈ l))) H) : rInA K (.str z) (.ref p) H Q := by
  refine .inr ⟨p, _, rfl, h, rfl, flat_strs l, ?_⟩
  rw [inV_strs]
  exact q
theorem strs_at {l : List Str} {j : Nat} (h : j < l.length) : ∃ z ∈ l, (l.map V.str)[j]? = some (V.str z) := ⟨l[j], List.getElem_mem h, by rw [List.getElem?_map, List.getElem?_eq_getElem h]; rfl⟩
end
end WP

set_option Elab.async false
set_option linter.all false
set_option maxRecDepth 100000
set_option maxHeartbeats 400000
/-! families: prefixes, entries that cannot stand, families of the law's pairs -/
namespace WP
open PySem PySem.Spec PyProof.Rows L2
theorem fits_known {n : Str} {ns : List Str} {d : PyData} (h : n ∈ ns) : fitsP ns (.tuple [.str n, d]) = none := by
  cases d <;> simp [fitsP, h]
theorem fits_nocls {n : Str} {ns : List Str} {d : PyData} (h : isClsS n = false) : fitsP ns (.tuple [.str n, d]) = none := by
  cases d <;> simp [fitsP, h]
theorem fits_nopar {n p : Str} {ns : List Str} (h : p ∉ ns) : fitsP ns (.tuple [.str n, .str p]) = none := by
  simp [fitsP, h]
theorem RawOk.take {rs : Raw} (h : RawOk rs) (i : Nat) (hi : i ≤ rs.length) : RawOk (rs.take i) := by
  refine ⟨?_⟩
  have := famD_take h.fam i (by rw [List.length_map]; exact hi)
  rw [List.map_take, List.map_take, this, List.length_nil, Nat.zero_add]
theorem raw_step {rs : Raw} (ok : RawOk rs) {i : Nat} {q : Str × Option Str} (h : rs[i]? = some q) : fitsP (famKeys ((rs.map rawN).take i)) (rawD q) = some (rawN q) ∧ (rs.map rawN).take i ++ [rawN q] = (rs.map rawN).take (i + 1) := by
  have hi : i < rs.length := (List.getElem?_eq_some_iff.mp h).1
  have e2 : (rs.map rawN).take i ++ [rawN q] = (rs.map rawN).take (i + 1) := by
    rw [List.take_succ, List.getElem?_map, h]
    rfl
  refine ⟨?_, e2⟩
  have h1 := famD_take ok.fam i (by rw [List.length_map]; omega)
  have h2 := famD_take ok.fam (i + 1) (by rw [List.length_map]; omega)
  rw [List.length_nil, Nat.zero_add] at h1 h2
  have e3 : (rs.map rawD).take (i + 1) = (rs.map rawD).take i ++ [rawD q] := by
    rw [List.take_succ, List.getElem?_map, h]
    rfl
  rw [e3, famD_app h1, famD_cons] at h2
  cases hq : fitsP (famKeys ((rs.map rawN).take i)) (rawD q) with
  | none => rw [hq] at h2; cases h2
  | some r =>
    rw [hq] at h2
    have h2 : (Sum.inr ((rs.map rawN).take i ++ [r]) : Nat ⊕ Prs) = .inr ((rs.map rawN).take (i + 1)) := h2
    injection h2 with h2
    rw [← e2] at h2
    have := List.append_cancel_left h2
    rw [List.singleton_inj.mp this]
theorem raw_again {rs : Raw} (ok : RawOk rs) {i : Nat} {q : Str × Option Str} (h : rs[i]? = some q) : fitsP (famKeys ((rs.map rawN).take (i + 1))) (rawD q) = none := by
  rw [← (raw_step ok h).2, famKeys_snoc]
  exact fits_known (List.mem_append_right _ (List.mem_singleton.mpr rfl))
theorem raw_ne {rs : Raw} {i : Nat} (hi : i < rs.length) : ¬ (rs.map rawN).take (i + 1) = (rs.map rawN).take i := fun e => by
  have := congrArg List.length e
  rw [List.length_take, List.length_take, List.length_map] at this
  omega
theorem cutV_take {xs : List V} (i : Nat) : cutV xs none (some (i : Int)) = xs.take i := by
  unfold cutV
  rw [HT.sIx_none]
  have e : HT.sIx xs.length xs.length (some (i : Int)) = min i xs.length := HT.sIx_nat xs.length xs.length i
  rw [e, List.drop_zero, Nat.sub_zero]
  by_cases h : i ≤ xs.length
  · rw [Nat.min_eq_left h]
  · rw [Nat.min_eq_right (by omega), List.take_length, List.take_of_length_le (by omega)]
section
variable {K : PySem.W.Frag} {C BF : Addr} {H : Hp} {Q : Addr → Hp → Prop} {E : XK}
theorem mk_raw {p : Addr} {ts : List Addr} {rs : Raw} (hp : SqL K H p (ts.map V.ref)) (hR : RwAt H ts rs) (ok : RawOk rs) (few : rs.length ≤ 1000) (q : ∀ (y : Addr) (H' : Hp), Evl.Ex H H' → IsFam K C (nov H H') y (rs.map rawN) → Q y H') :
    spMk K C BF (.ref p) (.list (rs.map rawD)) H Q E := by
  refine ⟨.lst hp hR.dp, ?_, by show (rs.map rawD).length ≤ 1000; rw [List.length_map]; exact few, fun k hk => ?_, fun ps hps y H' e hy => ?_⟩
  · rw [fit, List.length_map, decide_eq_true (by omega), raw_fit ok]
    rfl
  · rw [famOf_lR ok.fam] at hk
    cases hk
  · rw [famOf_lR ok.fam] at hps
    injection hps with hps
    subst hps
    exact q y H' e hy
theorem mk_rawT {p : Addr} {ts : List Addr} {rs : Raw} (hp : SqT K H p (ts.map V.ref)) (hR : RwAt H ts rs) (ok : RawOk rs) (few : rs.length ≤ 1000) (q : ∀ (y : Addr) (H' : Hp), Evl.Ex H H' → IsFam K C (nov H H') y (rs.map rawN) → Q y H') :
    spMk K C BF (.ref p) (.tuple (rs.map rawD)) H Q E := by
  refine ⟨.tup hp hR.dp, ?_, by show (rs.map rawD).length ≤ 1000; rw [List.length_map]; exact few, fun k hk => ?_, fun ps hps y H' e hy => ?_⟩
  · rw [fit, List.length_map, decide_eq_true (by omega), raw_fit ok]
    rfl
  · rw [famOf_tR ok.fam] at hk
    cases hk
  · rw [famOf_tR ok.fam] at hps
    injection hps with hps
    subst hps
    exact q y H' e hy
/-- an entry that cannot stand behind these pairs -/
def Bad (K : PySem.W.Frag) (ps : Prs) (H : Hp) (v : V) : Prop := ∃ d, Dp K H v d ∧ fit d = true ∧ fitsP (famKeys ps) d = none
theorem Bad.mono {ps : Prs} {H' : Hp} {v : V} (e : Evl.Ex H H') (h : Bad K ps H v) : Bad K ps H' v := by
  obtain ⟨d, h1, h2, h3⟩ := h
  exact ⟨d, Dp.mono e h1, h2, h3⟩
theorem fit_pair {d e : PyData} (h1 : fit d = true) (h2 : fit e = true) : fit (.tuple [d, e]) = true := by
  rw [fit, fitAll, fitAll, fitAll, h1, h2]
  rfl
theorem fit_s {z : Str} (h1 : z.length ≤ 100000) (h2 : PyData.strOk z = true) : fit (.str z) = true := by
  rw [fit, h2, Bool.and_true]
  exact decide_eq_true h1
theorem fit_n : fit .none = true := by rw [fit]
theorem fit_b {b : Bool} : fit (.bool b) = true := by rw [fit]
theorem len_app (x y : Str) : (x ++ y).length = x.length + y.length := by
  rw [← tl_length, tl_app, List.length_append, tl_length, tl_length]
theorem ok_app {x y : Str} (h1 : ClsN x) (h2 : ∀ c ∈ tl y, c < 1114112) : PyData.strOk (x ++ y) = true := by
  refine str_ok fun c hc => ?_
  have hc : c ∈ tl (x ++ y) := hc
  rw [tl_app] at hc
  rcases List.mem_append.mp hc with hc | hc
  · obtain ⟨a, r, e, q1, q2, q3⟩ := h1
    have e : tl x = a :: r := e
    rw [e] at hc
    rcases List.mem_cons.mp hc with rfl | hc
    · omega
    · rcases q2 c hc with h | h <;> omega
  · exact h2 c hc
theorem nocls_long {z : Str} (h : 12 < z.length) : isClsS z = false := by
  cases e : isClsS z with
  | false => rfl
  | true =>
    have := (isCls_iff.mp e).len
    omega
theorem nocls_one (z : Str) : isClsS (z ++ ("1" : Str)) = false := by
  cases e : isClsS (z ++ ("1" : Str)) with
  | false => rfl
  | true =>
    obtain ⟨c, r, e2, h1, h2, h3⟩ := isCls_iff.mp e
    have e2 : tl (z ++ ("1" : Str)) = c :: r := e2
    rw [tl_app] at e2
    have e3 : tl ("1" : Str) = [49] := by decide +kernel
    rw [e3] at e2
    have hm : 49 ∈ c :: r := by rw [← e2]; exact List.mem_append_right _ (List.mem_singleton.mpr rfl)
    rcases List.mem_cons.mp hm with h | h
    · omega
    · rcases h2 _ h with h | h <;> omega
theorem bad_tup {ps : Prs} {p : Addr} {xs : List V} {ds : List PyData} (hp : H p = none) (hd : DpAll K H xs ds) (hf : fit (.tuple ds) = true) (hn : fitsP (famKeys ps) (.tuple ds) = none) : Evl.Ex H (upd H p (.tup xs)) ∧ Bad K ps (upd H p (.tup xs)) (.ref p) :=
  ⟨Evl.Ex.new hp, _, .tup (SqT.of upd_same) (DpAll.mono (Evl.Ex.new hp) hd), hf, hn⟩
theorem bad_lst {ps : Prs} {p : Addr} {xs : List V} {ds : List PyData} (hp : H p = none) (hd : DpAll K H xs ds) (hf : fit (.list ds) = true) : Evl.Ex H (upd H p (.lst xs)) ∧ Bad K ps (upd H p (.lst xs)) (.ref p) :=
  ⟨Evl.Ex.new hp, _, .lst (SqL.of upd_same) (DpAll.mono (Evl.Ex.new hp) hd), hf, rfl⟩
theorem bad_non {ps : Prs} : Bad K ps H .non := ⟨_, .non, fit_n, rfl⟩
theorem bad_bl {ps : Prs} {b : Bool} : Bad K ps H (.bl b) := ⟨_, .bl b, fit_b, rfl⟩
theorem fit_one {d : PyData} (h1 : fit d = true) : fit (.tuple [d]) = true := by
  rw [fit, fitAll, fitAll, h1]
  rfl
theorem fit_nil : fit (.tuple []) = true := by
  rw [fit, fitAll]
  rfl
theorem fit_pairL {d e : PyData} (h1 : fit d = true) (h2 : fit e = true) : fit (.list [d, e]) = true := by
  rw [fit, fitAll, fitAll, fitAll, h1, h2]
  rfl
theorem atI_last {α : Type} {xs : List α} {v : α} (h : xs[xs.length - 1]? = some v) : atI xs (-1) = some v := by
  have hl : xs.length - 1 < xs.length := (List.getElem?_eq_some_iff.mp h).1
  unfold atI ixN
  rw [if_neg (by omega), if_pos (by omega)]
  show xs[((-1 : Int) + (xs.length : Int)).toNat]? = some v
  have e : ((-1 : Int) + (xs.length : Int)).toNat = xs.length - 1 := by omega
  rw [e]
  exact h
end
theorem mulOk_w {z : Str} {n : Int} (h0 : 1 < n) (h1 : n ≤ 100000) (h2 : z.length = 1) : MulOk z n := by
  refine ⟨?_, fun _ _ => ?_, fun _ _ => ?_⟩
  · have a : ¬ n < -(2 ^ 63 : Int) := by omega
    have b : ¬ n ≥ (2 ^ 63 : Int) := by omega
    rw [decide_eq_false a, decide_eq_false b]; rfl
  · rw [h2]
    have : (1 : Int) ≤ (2 ^ 63 - 1) / n := by
      rw [Int.le_ediv_iff_mul_le (by omega)]
      omega
    omega
  · rw [h2]
    exact decide_eq_false (by rw [sizeLine_eq]; omega)
end WP

set_option Elab.async false
set_option linter.all false
set_option maxRecDepth 100000
set_option maxHeartbeats 400000
/-! the head's facts of a program with own errors, own classes, static methods -/
namespace WP
open PySem PySem.Spec PyProof.Rows L2
/-- a def found by a path of one's own -/
structure PaD where
  path : PySem.W.Frag → Addr
  name : Str
  qual : Str
  st : Stmt
def fnWA (K : PySem.W.Frag) (a : Addr) : He.FnW := match K.lookup a with
  | some ⟨_, _, .func fd, _⟩ => some (fd.name, fd.qualname, fd.params, fd.body, fd.scope, fd.globals, fd.closure, fd.builtins)
  | _ => none
def PaD.val (d : PaD) : He.FnW := some (d.name, d.qual, defArgs d.st, .stmts (defBody d.st), defScope d.st, mainGlobals, [], builtinsNs)
def PaD.ok (K : PySem.W.Frag) (d : PaD) : Bool := PySem.W.keepIn K (.ref (d.path K)) && (match K.lookup (d.path K) with
  | some ⟨_, _, .func fd, _⟩ => PySem.W.codeIn K fd.code d.qual && (He.dflB K fd.defaults [] && He.kwdB K fd.kwdefaults [])
  | _ => false)
theorem PaD.funD {K : PySem.W.Frag} {d : PaD} (e : fnWA K (d.path K) = d.val) (c : d.ok K = true) : ∃ fd, FunD K d.name d.qual (defArgs d.st) (defBody d.st) (defScope d.st) [] [] (d.path K) fd := by
  unfold PaD.ok at c
  simp only [Bool.and_eq_true] at c
  obtain ⟨kp, rest⟩ := c
  split at rest
  · rename_i oc od fd sl at_
    simp only [fnWA, at_, PaD.val, Option.some.injEq, Prod.mk.injEq] at e
    simp only [Bool.and_eq_true] at rest
    obtain ⟨code, pos, kws⟩ := rest
    obtain ⟨a1, a2, a3, a4, a5, a6, a7, a8⟩ := e
    cases fd
    dsimp only at a1 a2 a3 a4 a5 a6 a7 a8
    subst a1 a2 a3 a4 a5 a6 a7 a8
    exact ⟨_, ⟨oc, od, _, _, _, _, _, _, _, sl, rfl, at_, code, He.dflB_ok pos, He.kwdB_ok kws⟩, kp⟩
  · exact absurd rest Bool.false_ne_true
abbrev AlF : Type := He.AlD × List InW × List He.FnW × Bool
def obsE3 (n : Nat) (fa : List He.Fa) (fn : List He.DefD) (xs : List ExD) (ys : List PaD) (ex : PySem.W.Frag → Bool) (g : Addr → Option Obj) : AlF :=
  (He.obsD fa fn (He.frG g (cStatics :: He.asD g n)), xs.map (fun d => inW (He.frG g (cStatics :: He.asD g n)) d.x), ys.map (fun d => fnWA (He.frG g (cStatics :: He.asD g n)) (d.path (He.frG g (cStatics :: He.asD g n)))), ex (He.frG g (cStatics :: He.asD g n)))
def hookE3 (n : Nat) (fa : List He.Fa) (fn : List He.DefD) (xs : List ExD) (ys : List PaD) (ex : PySem.W.Frag → Bool) : PySem.W.Hook where
  α := AlF
  obs := fun s => obsE3 n fa fn xs ys ex s.heap.get?
  val := fun _ => (He.valD fn, xs.map ExD.val, ys.map PaD.val, true)
  says := fun _ h => ∃ K : PySem.W.Frag, K.In h ∧ He.SaysD fa fn K ∧ xs.map (fun d => inW K d.x) = xs.map ExD.val ∧ ys.map (fun d => fnWA K (d.path K)) = ys.map PaD.val ∧ ex K = true
  of := fun _ _ e => ⟨_, He.frG_in, congrArg (fun z : AlF => z.1) e, congrArg (fun z : AlF => z.2.1) e, congrArg (fun z : AlF => z.2.2.1) e, congrArg (fun z : AlF => z.2.2.2) e⟩
  keeps := fun _ _ _ ⟨K, hK, c⟩ k => ⟨K, PySem.W.Frag.In.keeps hK k, c⟩
theorem obsE3_eq {n : Nat} {fa : List He.Fa} {fn : List He.DefD} {xs : List ExD} {ys : List PaD} {ex : PySem.W.Frag → Bool} {g : Addr → Option Obj} {s : Shared} (h : ∀ a, g a = s.heap.get? a) : obsE3 n fa fn xs ys ex g = (hookE3 n fa fn xs ys ex).obs s := by
  have e : g = s.heap.get? := funext h
  subst e
  rfl
theorem fnWA_at {K : PySem.W.Frag} {ys : List PaD} (h : ys.map (fun d => fnWA K (d.path K)) = ys.map PaD.val) (i : Nat) {d : PaD} (hd : ys[i]? = some d := by rfl) : fnWA K (d.path K) = d.val := by
  have := congrArg (fun l => l[i]?) h
  simp only [List.getElem?_map, hd] at this
  exact Option.some.inj this
theorem atM_of {fa : List He.Fa} {fn : List He.DefD} {K : PySem.W.Frag} {x m qual : Str} {st : Stmt} (c : He.SaysD fa fn K) (i j : Nat)
    (h1 : fn[i]? = some ⟨(x, some m), m, qual, defArgs st, defBody st, defScope st, [], []⟩ := by rfl) (h2 : fa[j]? = some (.meth x m) := by rfl) : AtM K (He.ga K x) m qual st := by
  obtain ⟨fd, F⟩ := c.def_ i h1
  exact ⟨_, fd, F, He.meth_ok (c.fact j h2)⟩
/-! ### a written tuple at an address; of pairs -/
def tupAtB (K : PySem.W.Frag) (a : Addr) (vs : List V) : Bool := match K.lookup a with
  | some ⟨.type c, _, .seq its _, _⟩ => decide (c = "tuple") && (decide (its.size ≤ sizeLine) && He.relAll vs its.toList)
  | _ => false
theorem tupAtB_ok {K : PySem.W.Frag} {a : Addr} {vs : List V} (h : tupAtB K a vs = true) (H : Hp) : SqT K H a vs := by
  unfold tupAtB at h
  split at h
  · rename_i c od its n sl e
    simp only [Bool.and_eq_true, decide_eq_true_eq] at h
    obtain ⟨rfl, few, rel⟩ := h
    exact .inr ⟨_, its, n, e, rfl, rfl, few, He.relAll_ok rel⟩
  · exact absurd h Bool.false_ne_true
/-- the tuple at a holds the pairs kvs -/
def prsB (K : PySem.W.Frag) : List Value → List (Key × V) → Bool
  | [], [] => true
  | .ref p :: us, kv :: kvs => tupAtB K p [kV kv.1, kv.2] && prsB K us kvs
  | _, _ => false
theorem prsB_ok {K : PySem.W.Frag} : ∀ {us : List Value} {kvs : List (Key × V)}, prsB K us kvs = true → ∃ ps : List Addr, us = ps.map Value.ref ∧ ∀ H, Paired (fun p kv => SqT K H p [kV kv.1, kv.2]) ps kvs
  | [], [], _ => ⟨[], rfl, fun _ => .nil⟩
  | .ref p :: us, kv :: kvs, h => by
    obtain ⟨h1, h2⟩ := He.ba (show (tupAtB K p [kV kv.1, kv.2] && prsB K us kvs) = true from h)
    obtain ⟨ps, e, k⟩ := prsB_ok h2
    exact ⟨p :: ps, by rw [e]; rfl, fun H => .cons (tupAtB_ok h1 H) (k H)⟩
  | [], _ :: _, h => by cases h
  | .ref p :: us, [], h => by cases h
  | .none :: us, kvs, h => by unfold prsB at h; cases h
  | .bool _ :: us, kvs, h => by unfold prsB at h; cases h
  | .int _ _ :: us, kvs, h => by unfold prsB at h; cases h
  | .str _ _ :: us, kvs, h => by unfold prsB at h; cases h
  | .bytes _ _ :: us, kvs, h => by unfold prsB at h; cases h
  | .float _ _ :: us, kvs, h => by unfold prsB at h; cases h
  | .type _ :: us, kvs, h => by unfold prsB at h; cases h
  | .builtin _ :: us, kvs, h => by unfold prsB at h; cases h
  | .notImplemented :: us, kvs, h => by unfold prsB at h; cases h
def dictB (K : PySem.W.Frag) (a : Addr) (kvs : List (Key × V)) : Bool := match K.lookup a with
  | some ⟨.type c, none, .seq its _, _⟩ => decide (c = "tuple") && (decide (its.size ≤ sizeLine) && prsB K its.toList kvs)
  | _ => false
theorem dictB_ok {K : PySem.W.Frag} {a : Addr} {kvs : List (Key × V)} (h : dictB K a kvs = true) : ∃ (o : Obj) (n : Nat) (ps : List Addr), K.lookup a = some o ∧ o.cls = .type "tuple" ∧ o.dict = none ∧ o.data = .seq (ps.map Value.ref).toArray n ∧ ps.length ≤ sizeLine ∧ ∀ H, Paired (fun p kv => SqT K H p [kV kv.1, kv.2]) ps kvs := by
  unfold dictB at h
  split at h
  · rename_i c its n sl e
    simp only [Bool.and_eq_true, decide_eq_true_eq] at h
    obtain ⟨rfl, few, prs⟩ := h
    obtain ⟨ps, eq, k⟩ := prsB_ok prs
    have same : its = (ps.map Value.ref).toArray := by rw [← eq]
    subst same
    exact ⟨_, n, ps, e, rfl, rfl, rfl, by simpa using few, k⟩
  · exact absurd h Bool.false_ne_true
/-- a static method of the class x -/
def statB (K : PySem.W.Frag) (C : Addr) (m : Str) : Bool := PySem.W.readsIn K C (.type "type") && (He.eqO (PySem.W.specialIn K (.ref C) "__getattribute__") (some (some (.builtin "type.__getattribute__"))) && He5.wrapB K C "staticmethod" "staticmethod.__get__" m)
theorem statB_ok {K : PySem.W.Frag} {C : Addr} {m : Str} (h : statB K C m = true) : ClX.CRead K C (.type "type") ∧ PySem.W.findCls K (.ref C) (.type "type") m = some (.get (.builtin "staticmethod.__get__") (.ref (He.ma K C m)) .none (.ref C)) ∧ ∃ rest, PySem.W.recIn K (He.ma K C m) "staticmethod" = some (.ref (He5.wf K C "staticmethod" m) :: rest) := by
  unfold statB at h
  obtain ⟨h1, h⟩ := He.ba h
  obtain ⟨h2, h3⟩ := He.ba h
  obtain ⟨h4, h5⟩ := He5.wrapB_ok h3
  exact ⟨⟨h1, He.eqO_ok h2⟩, h4, h5⟩
end WP

set_option Elab.async false
set_option linter.all false
set_option maxRecDepth 100000
set_option maxHeartbeats 400000
/-! comprehensions over a list whose elements lay new things; lower -/
namespace WP
open PySem PySem.Spec PyProof.Rows L2
theorem lc_GL {K : PySem.W.Frag} {a : Addr} {xs : List V} {g : TG} {te : TE} {vs : List Nat} {σ : L2.St} {H1 : Hp} {Qd : Hp → Prop} {D : Addr} (hD : H1 D = none) (hsq : SqL K H1 a xs) (hn : xs.length ≤ 1000000) (Dat : Nat → Hp → V → Prop) (mono : ∀ i G G' v, Evl.Ex G G' → Dat i G v → Dat i G' v)
    (hel : ∀ i x, xs[i]? = some x → ∀ H', Evl.Ex H1 H' → H' D ≠ none → ∀ (Q' : VK) (R : Hp → Prop), (∀ v H'', Evl.Ex H' H'' → Dat i (hid D H'') v → Q' v H'') → g x (wipe σ vs) H' fun σ2 H2 => wipe σ2 vs = wipe σ vs ∧ tYes σ2 H2 fun b H3 => if b = true then te σ2 H3 Q' else R H3)
    (q : ∀ H' ys, Evl.Ex H1 H' → H' D = some (.lst ys) → ys.length = xs.length → (∀ i v, ys[i]? = some v → Dat i (hid D H') v) → Qd H') :
    ∃ W : Nat → Nat → Hp → Prop, (∃ m, W 0 m (upd H1 D (.lst []))) ∧ ∀ i m H, W i m H →
      ((Itl K a).stop i H ∧ Qd H) ∨ ((Itl K a).go i H ∧ ∃ Nx : Hp → Prop, (∀ H', Nx H' → ∃ m', m' < m ∧ W (i + 1) m' H') ∧ ∀ x H', (Itl K a).yld i H x H' → g x (wipe σ vs) H' fun σ2 H2 => wipe σ2 vs = wipe σ vs ∧ tYes σ2 H2 fun b H3 =>
        if b = true then te σ2 H3 fun y H4 => ∃ acc, H4 D = some (.lst acc) ∧ acc.length < sizeLine ∧ Nx (upd H4 D (.lst (acc ++ [y]))) else Nx H3) := by
  refine lc_it (walk_list (K := K) (a := a) (xs := xs)) (fun i H' => ∃ acc : List V, H' D = some (.lst acc) ∧ acc.length = i ∧ Evl.Ex H1 H' ∧ ∀ j v, acc[j]? = some v → Dat j (hid D H') v) ?_ (fun i H' _ p => ?_) ?_ ?_
  · exact ⟨[], upd_same, rfl, Evl.Ex.new hD, fun j v h => by simp at h⟩
  · obtain ⟨acc, _, _, e, _⟩ := p
    exact Evl.ex_l e hsq
  · rintro i x H H' hi ⟨acc, h1, h2, h3, h4⟩ ⟨rfl, hx⟩
    refine hel i x hx H' h3 (by rw [h1]; exact fun e => by cases e) _ _ fun v H2 e2 hv => ⟨acc, e2 _ _ h1, by rw [sizeLine_eq]; omega, acc ++ [v], upd_same, by rw [List.length_append, h2]; rfl, Evl.Ex.mut (h3.trans e2) hD, fun j u hj => ?_⟩
    rw [hid_bag]
    by_cases hjl : j < acc.length
    · rw [List.getElem?_append_left hjl] at hj
      exact mono _ _ _ _ (hid_mono e2) (h4 j u hj)
    · have hj2 : j = acc.length := by
        have := (List.getElem?_eq_some_iff.mp hj).1
        rw [List.length_append, List.length_singleton] at this
        omega
      subst hj2
      rw [List.getElem?_append_right (Nat.le_refl _), Nat.sub_self] at hj
      have : v = u := by simpa using hj
      subst this
      rw [h2]
      exact hv
  · rintro H' ⟨ys, h1, h2, h3, h4⟩
    exact q H' ys h3 h1 h2 h4
/-- all values are known -/
theorem list_of {ys : List V} {n : Nat} {f : Nat → V} (hl : ys.length = n) (h : ∀ (i : Nat) (v : V), ys[i]? = some v → v = f i) : ys = (List.range n).map f := by
  refine List.ext_getElem? fun i => ?_
  by_cases hi : i < ys.length
  · rw [List.getElem?_eq_getElem hi, List.getElem?_map, List.getElem?_range (by omega)]
    exact congrArg some (h i _ (List.getElem?_eq_getElem hi))
  · rw [List.getElem?_eq_none (by omega), List.getElem?_eq_none (by rw [List.length_map, List.length_range]; omega)]
theorem map_of {α : Type} {ys : List V} {xs : List α} {f : α → V} (hl : ys.length = xs.length) (h : ∀ (i : Nat) (v : V), ys[i]? = some v → ∃ x, xs[i]? = some x ∧ v = f x) : ys = xs.map f := by
  refine List.ext_getElem? fun i => ?_
  by_cases hi : i < ys.length
  · obtain ⟨x, h1, h2⟩ := h i _ (List.getElem?_eq_getElem hi)
    rw [List.getElem?_eq_getElem hi, List.getElem?_map, h1, h2]
    rfl
  · rw [List.getElem?_eq_none (by omega), List.getElem?_eq_none (by rw [List.length_map]; omega)]
/-! ### lower -/
theorem lower_one : ∀ c ∈ capsL, Unicode.lowerOf c = [c + 32] := by decide +kernel
theorem lower_nocls {z : Str} (h : ClsN z) : isClsS (Txt.lower z) = false := by
  obtain ⟨c, r, e, h1, h2, h3⟩ := h
  cases q : isClsS (Txt.lower z) with
  | false => rfl
  | true =>
    obtain ⟨c', r', e', k1, k2, k3⟩ := isCls_iff.mp q
    exfalso
    have hz : z.cps = (c :: r).toArray := by
      apply Array.toList_inj.mp
      rw [e]
    have e0 : z.cps[0]? = some c := by rw [hz]; rfl
    have hl : Unicode.lowerAt z.cps 0 = [c + 32] := by
      unfold Unicode.lowerAt
      rw [e0]
      show (if c == 0x3A3 && Unicode.endsWord z.cps 0 then [0x3C2] else Unicode.lowerOf c) = _
      have : (c == 0x3A3) = false := by
        rw [beq_eq_false_iff_ne]
        omega
      rw [this, Bool.false_and, if_neg (by simp)]
      exact lower_one c (caps_mem.mpr h1)
    have hh : ∃ t, (Txt.lower z).cps.toList = (c + 32) :: t := by
      unfold Txt.lower placed
      refine ⟨(List.map Array.toList (List.mapIdx (fun i c => (Unicode.lowerAt z.cps (i + 1)).toArray) r)).flatten, ?_⟩
      simp [Array.toList_flatten, e, List.mapIdx_cons, hl, Function.comp_def]
    obtain ⟨t, ht⟩ := hh
    rw [ht] at e'
    injection e' with e1 _
    omega
/-! ### lists of class names as data -/
section
variable {K : PySem.W.Frag} {H : Hp}
theorem strs_dp {p : Addr} {l : List Str} (h : SqL K H p (l.map V.str)) : Dp K H (.ref p) (.list (l.map PyData.str)) := by
  refine .lst h ?_
  clear h
  induction l with
  | nil => exact .nil
  | cons z r ih => exact .cons (.str z) ih
theorem strs_shaped {l : List Str} (h : ∀ z ∈ l, PyData.strOk z = true) : SeqAt.shaped (.list (l.map PyData.str)) = true := by
  have e : l.map PyData.str = (l.map V.str).map datV := by rw [List.map_map]; rfl
  rw [e]
  refine shaped_list fun v hv => ?_
  obtain ⟨z, hz, rfl⟩ := List.mem_map.mp hv
  exact h z hz
theorem fam_strOk {ps : Prs} (ok : FamOk ps) : ∀ z ∈ famKeys ps, PyData.strOk z = true := fun z hz => cls_ok (ok.cl z hz)
theorem raw_names (rs : Raw) : names4.map V.str ++ rs.map (fun q => V.str q.1) = (famKeys (rs.map rawN)).map V.str := by
  rw [raw_keys, List.map_append, List.map_map]
  rfl
theorem raw_notin {rs : Raw} (ok : RawOk rs) {i : Nat} {q : Str × Option Str} (h : rs[i]? = some q) : q.1 ∉ famKeys ((rs.map rawN).take i) := (fitsP_spec (raw_step ok h).1).2.1
theorem rawN_val (q : Str × Option Str) : V.str (rawN q).2 = (if decide (optV q.2 = V.non) = true then V.str "Error" else optV q.2) := by
  obtain ⟨n, o⟩ := q
  cases o <;> rfl
theorem ixN_zero {n : Nat} (h : 0 < n) : ixN n 0 = some 0 := by
  unfold ixN
  rw [if_pos (by decide), if_pos (by omega)]
  rfl
theorem valV_of_mem : ∀ {kvs : List (Key × V)} {k : Key} {v : V}, (kvs.map (fun kv : Key × V => kv.1)).Nodup → (k, v) ∈ kvs → valV kvs k = some v
  | p :: r, k, v, nd, h => by
    rw [List.map_cons, List.nodup_cons] at nd
    rcases List.mem_cons.mp h with h | h
    · rw [← h]
      exact valV_pos rfl
    · have ne : ¬ p.1 = k := fun e => nd.1 (by rw [e]; exact List.mem_map.mpr ⟨_, h, rfl⟩)
      rw [valV_neg ne]
      exact valV_of_mem nd.2 h
theorem nodup_inr : ∀ {l : List Str}, l.Nodup → (l.map (Sum.inr : Str → Key)).Nodup
  | [], _ => List.nodup_nil
  | z :: r, h => by
    rw [List.nodup_cons] at h
    rw [List.map_cons, List.nodup_cons]
    refine ⟨fun hm => ?_, nodup_inr h.2⟩
    obtain ⟨y, h1, h2⟩ := List.mem_map.mp hm
    injection h2 with h2
    exact h.1 (h2 ▸ h1)
theorem fam_val {ps : Prs} (ok : FamOk ps) {q : Str × Str} (h : q ∈ ps) : valV (famKvs ps) (Sum.inr q.1) = some (V.str q.2) := by
  refine valV_of_mem ?_ ?_
  · have := nodup_inr ok.nd
    rw [← famKvs_fst] at this
    exact this
  · exact List.mem_append_right _ (List.mem_map.mpr ⟨q, h, rfl⟩)
theorem pr_of {G : Hp} {ps : Prs} {ys : List V} (hl : ys.length = ps.length) (h : ∀ (i : Nat) (v : V), ys[i]? = some v → ∃ q t, ps[i]? = some q ∧ v = .ref t ∧ G t = some (.tup [.str q.1, .str q.2])) : ∃ ts, ys = ts.map V.ref ∧ PrAt G ts ps := by
  induction ps generalizing ys with
  | nil =>
    have : ys = [] := List.eq_nil_of_length_eq_zero hl
    subst this
    exact ⟨[], rfl, .nil⟩
  | cons p r ih =>
    cases ys with
    | nil => cases hl
    | cons y yr =>
      obtain ⟨q, t, h1, h2, h3⟩ := h 0 y rfl
      have : p = q := by simpa using h1
      subst this
      obtain ⟨ts, e, hp⟩ := ih (by simpa using hl) fun i v hv => by
        obtain ⟨q, t, k1, k2, k3⟩ := h (i + 1) v (by simpa using hv)
        exact ⟨q, t, by simpa using k1, k2, k3⟩
      exact ⟨t :: ts, by rw [h2, e]; rfl, .cons h3 hp⟩
end
end WP

set_option Elab.async false
set_option linter.all false
set_option maxRecDepth 100000
set_option maxHeartbeats 400000
/-! joining ways; the first pair's parent left out; raw pairs as data -/
namespace WP
open PySem PySem.Spec PyProof.Rows L2
theorem ite_cut {p : Prop} {dp : Decidable p} {ta tb : TE} {σ : L2.St} {H : Hp} {Q : VK} (P : V → Hp → Prop) (h1 : p → ∀ Q : VK, (∀ v H', P v H' → Q v H') → ta σ H Q) (h2 : ¬ p → ∀ Q : VK, (∀ v H', P v H' → Q v H') → tb σ H Q) (k : ∀ v H', P v H' → Q v H') : if decide p = true then ta σ H Q else tb σ H Q :=
  iteD (fun h => h1 h Q k) fun h => h2 h Q k
theorem iteS_cut {p : Prop} {dp : Decidable p} {s1 s2 : TS} {D : Ends} {σ : L2.St} {H : Hp} (P : L2.St → Hp → Prop) (h1 : p → ∀ D' : Ends, (∀ σ' H', P σ' H' → D'.nx σ' H') → s1 D' σ H) (h2 : ¬ p → ∀ D' : Ends, (∀ σ' H', P σ' H' → D'.nx σ' H') → s2 D' σ H) (k : ∀ σ' H', P σ' H' → D.nx σ' H') : if decide p = true then s1 D σ H else s2 D σ H :=
  iteD (fun h => h1 h D k) fun h => h2 h D k
theorem famD_congr : ∀ {xs : List PyData} {acc acc' l : Prs}, famKeys acc = famKeys acc' → famD acc xs = .inr (acc ++ l) → famD acc' xs = .inr (acc' ++ l)
  | [], acc, acc', l, hk, e => by
    have e : (Sum.inr acc : Nat ⊕ Prs) = .inr (acc ++ l) := e
    injection e with e
    have : l = [] := by
      have := congrArg List.length e
      rw [List.length_append] at this
      exact List.eq_nil_of_length_eq_zero (by omega)
    subst this
    rw [List.append_nil]
    rfl
  | d :: r, acc, acc', l, hk, e => by
    rw [famD_cons] at e ⊢
    rw [← hk]
    cases hq : fitsP (famKeys acc) d with
    | none => rw [hq] at e; cases e
    | some q =>
      rw [hq] at e
      have e : famD (acc ++ [q]) r = .inr (acc ++ l) := e
      show famD (acc' ++ [q]) r = .inr (acc' ++ l)
      have hp : ∃ l', l = q :: l' := by
        have h1 := famD_take e 0 (Nat.zero_le _)
        rw [List.take_zero, Nat.add_zero] at h1
        have h1 : (Sum.inr (acc ++ [q]) : Nat ⊕ Prs) = .inr ((acc ++ l).take (acc ++ [q]).length) := h1
        injection h1 with h1
        rw [List.length_append, List.length_singleton, List.take_append, List.take_of_length_le (by omega)] at h1
        have h2 := List.append_cancel_left h1
        have e3 : acc.length + 1 - acc.length = 1 := by omega
        rw [e3] at h2
        cases l with
        | nil => simp at h2
        | cons a l' =>
          have : q = a := by simpa using h2
          exact ⟨l', by rw [this]⟩
      obtain ⟨l', rfl⟩ := hp
      have e1 : acc ++ q :: l' = (acc ++ [q]) ++ l' := by simp
      have e2 : acc' ++ q :: l' = (acc' ++ [q]) ++ l' := by simp
      rw [e1] at e
      rw [e2]
      exact famD_congr (by rw [famKeys_snoc, famKeys_snoc, hk]) e
theorem raw_first {q : Str × Option Str} {r : Raw} (h : RawOk (q :: r)) : RawOk ((q.1, none) :: r) := by
  have h0 := raw_step h (i := 0) (q := q) rfl
  have hf := h.fam
  refine ⟨?_⟩
  rw [List.map_cons, List.map_cons, famD_cons] at hf ⊢
  have h1 : fitsP (famKeys []) (rawD q) = some (rawN q) := h0.1
  obtain ⟨k1, k2, k3⟩ := fitsP_spec h1
  have h2 : fitsP (famKeys []) (rawD (q.1, none)) = some (rawN (q.1, none)) := rawD_fits k1 k2 (fun m e => by cases e)
  rw [h1] at hf
  rw [h2]
  have hf : famD ([] ++ [rawN q]) (r.map rawD) = .inr ([rawN q] ++ r.map rawN) := hf
  show famD ([] ++ [rawN (q.1, none)]) (r.map rawD) = .inr ([rawN (q.1, none)] ++ r.map rawN)
  exact famD_congr (acc := [rawN q]) (by unfold famKeys; rfl) hf
theorem rawD_ok {q : Str × Option Str} (h1 : ClsN q.1) (h2 : ∀ m, q.2 = some m → ClsN m) : (rawD q).canLay0 = true ∧ (rawD q).depth = 1 := by
  obtain ⟨n, o⟩ := q
  have h1 : ClsN n := h1
  cases o with
  | none => exact ⟨by simp [rawD, PyData.canLay0, PyData.canLayAll0, cls_ok h1], by simp [rawD, PyData.depth, PyData.depthAll]⟩
  | some m =>
    have h3 := h2 m rfl
    exact ⟨by simp [rawD, PyData.canLay0, PyData.canLayAll0, cls_ok h1, cls_ok h3], by simp [rawD, PyData.depth, PyData.depthAll]⟩
theorem raw_shaped {rs : Raw} (h : ∀ q ∈ rs, ClsN q.1 ∧ ∀ m, q.2 = some m → ClsN m) : SeqAt.shaped (.list (rs.map rawD)) = true := by
  have key : PyData.canLayAll0 (rs.map rawD) = true ∧ PyData.depthAll (rs.map rawD) ≤ 1 := by
    induction rs with
    | nil => exact ⟨by simp [PyData.canLayAll0], by simp [PyData.depthAll]⟩
    | cons q r ih =>
      obtain ⟨a, b⟩ := ih fun p hp => h p (List.mem_cons_of_mem _ hp)
      obtain ⟨c, d⟩ := rawD_ok (h q (List.mem_cons_self ..)).1 (h q (List.mem_cons_self ..)).2
      rw [List.map_cons, PyData.canLayAll0, PyData.depthAll, a, c, d]
      exact ⟨rfl, by omega⟩
  unfold SeqAt.shaped
  rw [PyData.canLay0, PyData.depth, key.1, Bool.true_and]
  exact decide_eq_true (by omega)
theorem raw_eqv_nil (rs : Raw) : PyData.eqv (.list (rs.map rawD)) (.list []) = decide (rs = []) := by
  cases rs with
  | nil => simp [PyData.eqv, PyData.eqvAll]
  | cons q r => simp [PyData.eqv, PyData.eqvAll]
theorem nil_shaped : SeqAt.shaped (.list []) = true := by decide +kernel
theorem cutV_drop1 {v : V} {xs : List V} : cutV (v :: xs) (some 1) none = xs := by
  unfold cutV
  have e1 : HT.sIx (v :: xs).length 0 (some 1) = min 1 (v :: xs).length := HT.sIx_nat (v :: xs).length 0 1
  rw [e1, HT.sIx_none, List.length_cons]
  have : min 1 (xs.length + 1) = 1 := by omega
  rw [this]
  simp
/-! ### heaps without two things -/
theorem ex_hid2 {b D : Addr} {H H' : Hp} (hD : H D = none) (e : Evl.Ex (hid b H) (hid b H')) : Evl.Ex (hid b H) (hid D (hid b H')) := fun a o h => hid_of (e a o h) fun z => by
  have := hid_get h
  rw [z, hD] at this
  cases this
theorem nov_hid2 {b D : Addr} {H H' : Hp} (hb : H b ≠ none) (hD : H D ≠ none) : Evl.Ex (nov H H') (hid D (hid b H')) := fun a o h => by
  obtain ⟨h1, h2⟩ := nov_get h
  exact hid_of (hid_of h2 fun e => hb (by rw [← e]; exact h1)) fun e => hD (by rw [← e]; exact h1)
theorem hid2_upd {b D : Addr} {H : Hp} {o : HO} : Evl.Ex (hid D (hid b H)) (hid b (upd H D o)) := fun a u h => by
  have h1 := hid_ne h
  have h2 := hid_get h
  have h3 := hid_ne h2
  exact hid_of (by rw [upd_ne h1]; exact hid_get h2) h3
theorem hid2_mono {b D : Addr} {H H' : Hp} (e : Evl.Ex (hid b H) (hid b H')) : Evl.Ex (hid D (hid b H)) (hid D (hid b H')) := fun a o h => hid_of (e _ _ (hid_get h)) (hid_ne h)
end WP

set_option Elab.async false
set_option linter.all false
set_option maxRecDepth 100000
set_option maxHeartbeats 1000000
/-! an error that an except clause hands on as a value: kept, its field read, isinstance -/
namespace WP
open PySem PySem.Spec PyProof.Rows L2
/-- an error object of the class cls at a, its dict at d -/
def exk (a : Addr) (cls : Value) (d : Option Addr) : HO := .ext fun h => ∃ (oe : Obj) (vs : Array Value), h.get? a = some oe ∧ Zc cls d oe ∧ oe.data = .fields vs
theorem exk_ok {P : Program} {w : World} {H : Hp} {h : Heap} {a : Addr} {cls : Value} {d : Option Addr} {oe : Obj} {vs : Array Value} (e : h.get? a = some oe) (z : Zc cls d oe) (hd : oe.data = .fields vs) : ObjOk P w H h a (exk a cls d) :=
  ⟨⟨oe, vs, e, z, hd⟩, ⟨oe, e⟩, fun _ _ ⟨o, v, q, r⟩ k => ⟨o, v, k o q, r⟩⟩
theorem exk_at {P : Program} {w : World} {H : Hp} {h : Heap} {a : Addr} {cls : Value} {d : Option Addr} (x : HOk P w H h) (ha : H a = some (exk a cls d)) : ∃ (oe : Obj) (vs : Array Value), h.get? a = some oe ∧ Zc cls d oe ∧ oe.data = .fields vs := (x a _ ha).1
section
variable {X : Cx} {pins : List (Addr × Obj)} {σ : L2.St} {H : Hp} {s : Shared}
/-- an object that is there and was not there at the entry is tracked from now on -/
theorem inv_track {a : Addr} {o : HO} {oe : Obj} (I : Inv X pins σ H s) (he : s.heap.get? a = some oe) (hd : ∀ v, oe.data ≠ .cell v) (n0 : X.s_0.heap.get? a = none) (hn : H a = none) (nL : a ≠ X.env.locals) (np : ∀ p ∈ X.pn ++ pins, p.1 ≠ a)
    (new : ObjOk X.prog X.w (upd H a o) s.heap a o) : Inv X pins σ (upd H a o) s := by
  have ne0 : ∀ b u, X.s_0.heap.get? b = some u → b ≠ a := fun b u e z => by rw [z, n0] at e; cases e
  have b := I.base
  refine ⟨I.ok, I.os, I.bare, ⟨b.keep, b.slot, fun c u e n hx => ?_, b.there, fun c xs e => ?_, fun c u v e => ?_, fun c ps e => ?_⟩, I.loc, I.cell, ?_, fun x c e => ?_, fun p hp => ?_, I.hok.laidN (fun _ _ q => q) hn new, I.len⟩
  · rw [upd_ne (ne0 c u e)]
    exact b.free c u e n hx
  · have q := b.tups c xs e
    rw [upd_ne (ne_of_none q hn)]
    exact q
  · have q := b.frzs c u v e
    rw [upd_ne (ne_of_none q hn)]
    exact q
  · obtain ⟨m, q⟩ := b.tbls c ps e
    exact ⟨m, by rw [upd_ne (ne_of_none q hn)]; exact q⟩
  · rw [upd_ne nL.symm]
    exact I.free
  · have nc : c ≠ a := fun z => by
      obtain ⟨v, oc, hc, hcd⟩ := I.cell x c e
      rw [z, he] at hc
      cases hc
      exact hd _ hcd
    rw [upd_ne nc]
    exact I.freeC x c e
  · obtain ⟨h1, h2, h3⟩ := I.pin p hp
    exact ⟨h1, by rw [upd_ne (np p hp)]; exact h2, h3⟩
end
/-- the ends behind a suite that kept its error: from there on the error is tracked, its name is gone -/
abbrev keepE (D : Ends) (i : Nat) (a : Addr) (cls : Value) (d : Option Addr) : Ends :=
  { nx := fun σ' H' => D.nx (σ'.set i none) (upd H' a (exk a cls d)), rt := fun v H' => D.rt v (upd H' a (exk a cls d)), bk := fun σ' H' => D.bk (σ'.set i none) (upd H' a (exk a cls d)), ct := fun σ' H' => D.ct (σ'.set i none) (upd H' a (exk a cls d)) }
/-- as wAs, but the error stays as a value -/
def wKeep (K : PySem.W.Frag) (c : Value) (i : Nat) (ts : Addr → Value → Option Addr → TS) (Wout : WX) (D : Ends) : WX := fun cls d σ H =>
  ∃ b, PySem.W.exmOne K cls c = some b ∧ (b = true → ∀ a, H a = none → ts a cls d (keepE D i a cls d) (σ.set i (some (.ref a))) H) ∧ (b = false → Wout cls d σ H)
/-- an error at a has come down to a try of this frame; was: the state without it, B: the ground under its flight -/
structure Down (X : Cx) (pins : List (Addr × Obj)) (σ : L2.St) (H : Hp) (a : Addr) (cls : Value) (d : Option Addr) (was : Shared) (B : Heap) (s : Shared) : Prop where
  inv : Inv X pins σ H was
  gr : ∀ b o, was.heap.get? b = some o → b ∉ frs X.stack → B.get? b = some o
  up : was.heap.UpToSlots s.heap
  os : s.os = was.os
  bare : AllBare s.gens
  off : H a = none
  fly : PX.FlyingZ B (X.env :: X.outer) a (Zc cls d) s.heap
section
variable {X : Cx} {pins : List (Addr × Obj)} {σ : L2.St} {H : Hp} {a : Addr} {cls : Value} {d : Option Addr} {was s : Shared} {B : Heap}
namespace Down
theorem now (w : Down X pins σ H a cls d was B s) : Inv X pins σ H s := w.inv.landed w.gr w.fly.1 w.up w.os w.bare
theorem shift (w : Down X pins σ H a cls d was B s) {h' : Heap} (fl : PX.FlyingZ B (X.env :: X.outer) a (Zc cls d) h') (u : s.heap.UpToSlots h') : Down X pins σ H a cls d was B { s with heap := h' } :=
  ⟨w.inv, w.gr, w.up.trans u, w.os, w.bare, w.off, fl⟩
theorem outside (w : Down X pins σ H a cls d was B s) : a ∉ frs (X.env :: X.outer) := fun m => by
  obtain ⟨oe, vs, he, -, hd⟩ := w.fly.there
  obtain ⟨-, o, ho, no⟩ := w.fly.2.2.1.mem m
  obtain rfl := Option.some.inj (he.symm.trans ho)
  exact no vs hd
theorem fresh (w : Down X pins σ H a cls d was B s) (hs : X.stack = X.env :: X.outer) : was.heap.get? a = none := by
  rcases e : was.heap.get? a with _ | o
  · rfl
  · have q := w.gr a o e (by rw [hs]; exact w.outside)
    rw [w.fly.2.1] at q
    cases q
theorem entry (w : Down X pins σ H a cls d was B s) (hs : X.stack = X.env :: X.outer) (hx : X.ex = []) : X.s_0.heap.get? a = none := by
  rcases e : X.s_0.heap.get? a with _ | o
  · rfl
  · obtain ⟨u, q⟩ := w.inv.base.there a o e (by simp [hx])
    rw [w.fresh hs] at q
    cases q
theorem unpinned (w : Down X pins σ H a cls d was B s) (hs : X.stack = X.env :: X.outer) (p : Addr × Obj) (hp : p ∈ X.pn ++ pins) : p.1 ≠ a := fun e => by
  have q := (w.inv.pin p hp).1
  rw [e, w.fresh hs] at q
  cases q
theorem notLocals (w : Down X pins σ H a cls d was B s) (hf : X.env.frame = some X.env.locals) : a ≠ X.env.locals :=
  fun e => w.outside (List.mem_filterMap.mpr ⟨X.env, .head _, by rw [hf, e]⟩)
theorem notBelow (w : Down X pins σ H a cls d was B s) : a ∉ X.fs := fun m => w.outside (by
  obtain ⟨e, h1, h2⟩ := List.mem_filterMap.mp m
  exact List.mem_filterMap.mpr ⟨e, .tail _ h1, h2⟩)
/-- a suite may begin -/
theorem hold (w : Down X pins σ H a cls d was B s) (hf : X.env.frame = some X.env.locals) :
    ∃ (oe : Obj) (vs : Array Value), Zc cls d oe ∧ oe.data = .fields vs ∧ Inv (X.suite a ((a, oe) :: (X.pn ++ pins))) [] σ H s := by
  obtain ⟨oe, vs, he, hz, hd⟩ := w.fly.there
  exact ⟨oe, vs, hz, hd, w.now.suite he hd w.off (w.notLocals hf) w.notBelow⟩
end Down
/-- the class that a clause names is read -/
theorem names_read {x : Str} {np : Pos} {c : Value} {pn : List (Addr × Obj)} {Q : Value → Shared → Prop} {E : Value → Shared → Prop} (S : Inv (X.suite a pn) [] σ H s) (hc : Names X x c) (q : Q c s) :
    wpAny (model X.prog X.w) (X.A.mark (some (.ref a))) (eval (.Name x np) X.env) Q E s := by
  obtain ⟨g, nd, m | ⟨m, v, nn⟩⟩ := hc
  · exact ld_glob (X := X.suite a pn) S g m q nd
  · exact ld_blt (X := X.suite a pn) S g m v q nn nd
/-- behind the suite: the error is tracked, its name goes -/
theorem keep_back {i : Nat} {n : Str} {pos : Pos} {oe : Obj} {vs : Array Value} {D : Ends} {f : Flow} (ok : X.Ok) (hN : X.N.Nodup) (hi : X.N[i]? = some n) (hln : X.env.kindOf n = some .local) (n0 : X.s_0.heap.get? a = none) (nL : a ≠ X.env.locals)
    (nP : ∀ p ∈ X.pn ++ pins, p.1 ≠ a) (hz : Zc cls d oe) (hd : oe.data = .fields vs) (h : SP (X.suite a ((a, oe) :: (X.pn ++ pins))) [] (keepE D i a cls d) f s) :
    wpAny (model X.prog X.w) X.A (do bindName X.env n .none; unbindBehindTheSuite X.env n pos) (fun _ s' => SP X pins D f s') X.xe s := by
  have on : ∀ {σ1 : L2.St} {H1 : Hp}, Inv (X.suite a ((a, oe) :: (X.pn ++ pins))) [] σ1 H1 s → Inv X pins σ1 (upd H1 a (exk a cls d)) s := fun S => by
    have p := S.pin (a, oe) (List.mem_append_left _ (.head _))
    exact inv_track (S.unsuite ok) p.1 (fun v z => by rw [hd] at z; cases z) n0 p.2.1 nL nP (exk_ok p.1 hz hd)
  rcases f with _ | _ | _ | u
  · exact let ⟨_, _, S, q⟩ := h; gone_ok (on S) hN hi hln fun s' J => ⟨_, _, J, q⟩
  · exact let ⟨_, _, S, q⟩ := h; gone_ok (on S) hN hi hln fun s' J => ⟨_, _, J, q⟩
  · exact let ⟨_, _, S, q⟩ := h; gone_ok (on S) hN hi hln fun s' J => ⟨_, _, J, q⟩
  · exact let ⟨v, _, _, S, r, q⟩ := h; gone_ok (on S) hN hi hln fun s' J => ⟨v, _, _, J, r, q⟩
variable {x n : Str} {c : Value} {i : Nat} {suite : List Stmt} {b₀ : Stmt} {np pos : Pos} {D : Ends}
/-- the clause takes it -/
theorem Down.taken {t : TS} {rest : List ExceptHandler} (w : Down X pins σ H a cls d was B s) (hex : X.ex = []) (hs : X.stack = X.env :: X.outer) (hf : X.env.frame = some X.env.locals) (hN : X.N.Nodup) (hi : X.N[i]? = some n) (hln : X.env.kindOf n = some .local) (hc : Names X x c)
    (hm : PySem.W.exmOne X.K cls c = some true) (run : ∀ oe, Zc cls d oe → (∃ vs, oe.data = .fields vs) → PSs (X.suite a ((a, oe) :: (X.pn ++ pins))) (b₀ :: suite) t) (h : t (keepE D i a cls d) (σ.set i (some (.ref a))) H) :
    wpAny (model X.prog X.w) X.A (handleBy (.ref a) X.env (.ExceptHandler (some (.Name x np)) (some n) (b₀ :: suite) pos :: rest)) (SP X pins D) X.xe s := by
  obtain ⟨_, _, _, _, S⟩ := w.hold hf
  refine PX.clause_asZ w.now.kIn (fun _ z => z.1) w.fly hm (fun {_ _} q => names_read S hc q) fun h' fl u => ?_
  obtain ⟨oe, vs, hz, hd, S'⟩ := (w.shift fl u).hold hf
  refine store_ok (X := X.suite a ((a, oe) :: (X.pn ++ pins))) (v := .ref a) S' hN hi (.inl hln) rfl (fun s1 S1 => ?_) (.inr hln)
  exact wpAny_mono ((run oe hz ⟨vs, hd⟩).run [] s1 _ H _ S1 h) (fun f s2 e => keep_back w.inv.ok hN hi hln (w.entry hs hex) (w.notLocals hf) (w.unpinned hs) hz hd e) fun _ _ z => z
/-- the clause does not take it: it flies on -/
theorem Down.missed {Wout : WX} {nm : Option Str} {body : List Stmt} {Q : Flow → Shared → Prop} (w : Down X pins σ H a cls d was B s) (hs : X.stack = X.env :: X.outer) (hf : X.env.frame = some X.env.locals) (hc : Names X x c) (tk : Takes X Wout)
    (hm : PySem.W.exmOne X.K cls c = some false) (ho : Wout cls d σ H) : wpAny (model X.prog X.w) X.A (handleBy (.ref a) X.env [.ExceptHandler (some (.Name x np)) nm body pos]) Q X.xe s := by
  obtain ⟨_, _, _, _, S⟩ := w.hold hf
  refine PX.clause_passZ w.now.kIn (fun _ z => z.1) w.fly hm (fun {_ _} q => names_read S hc q) (PX.no_clauseZ hf w.fly fun h' hd u => tk _ _ ?_)
  exact ⟨a, B, was, pins, σ, H, cls, d, rfl, w.inv, w.gr, w.up.trans u, .inr (.inr (by rw [hs]; exact hd)), w.off, w.os, w.bare, ho⟩
/-- the ends of a try's body are those of its frame -/
theorem sp_try {xe : Value → Shared → Prop} {f : Flow} (ok : X.Ok) (h : SP (X.tr (X.pn ++ pins) xe) [] D f s) : SP X pins D f s := by
  rcases f with _ | _ | _ | u
  · exact let ⟨σ1, H1, J, q⟩ := h; ⟨σ1, H1, J.ofTry ok, q⟩
  · exact let ⟨σ1, H1, J, q⟩ := h; ⟨σ1, H1, J.ofTry ok, q⟩
  · exact let ⟨σ1, H1, J, q⟩ := h; ⟨σ1, H1, J.ofTry ok, q⟩
  · exact let ⟨v, σ1, H1, J, r, q⟩ := h; ⟨v, σ1, H1, J.ofTry ok, r, q⟩
/-- what a try wishes of an error: that its clauses deal with it -/
abbrev caughtBy (X : Cx) (hl : List ExceptHandler) (Q : Flow → Shared → Prop) : Value → Shared → Prop := fun e s1 =>
  wpAny (model X.prog X.w) X.A (noteFrame e X.env) (fun _ s2 => wpAny (model X.prog X.w) X.A (setFlight e none) (fun _ s3 => wpAny (model X.prog X.w) X.A (handleBy e X.env hl) Q X.xe s3) X.xe s2) X.xe s1
theorem ps_try_keep {body : List Stmt} {pos' : Pos} {tb : WX → TS} {ts : Addr → Value → Option Addr → TS} {Wout : WX} (hex : X.ex = []) (hs : X.stack = X.env :: X.outer) (hf : X.env.frame = some X.env.locals) (hN : X.N.Nodup) (hi : X.N[i]? = some n) (hln : X.env.kindOf n = some .local) (hc : Names X x c) (tk : Takes X Wout)
    (hb : ∀ (W : WX) (pn : List (Addr × Obj)) (xe : Value → Shared → Prop), Takes (X.tr pn xe) W → PassesOwn (model X.prog X.w) X.A X.env xe → PSs (X.tr pn xe) body (tb W))
    (hsu : ∀ (a : Addr) (oe : Obj) (cls : Value) (d : Option Addr) (pn : List (Addr × Obj)), Zc cls d oe → (∃ vs, oe.data = .fields vs) → PSs (X.suite a ((a, oe) :: pn)) (b₀ :: suite) (ts a cls d)) :
    PS X (.Try body [.ExceptHandler (some (.Name x np)) (some n) (b₀ :: suite) pos'] [] [] pos) (fun D σ H => tb (wKeep X.K c i ts Wout D) D σ H) := by
  constructor
  intro pins s σ H D I h
  have ok := I.ok
  have fr : X.A.frames = some (X.env :: X.outer) := ok.frames.trans (congrArg some hs)
  have dn : Takes (X.tr (X.pn ++ pins) (caughtBy X [.ExceptHandler (some (.Name x np)) (some n) (b₀ :: suite) pos'] (SP X pins D))) (wKeep X.K c i ts Wout D) := by
    rintro _ s' ⟨a, B, was, pins', σ', H', cls, d, rfl, J, gr, up, sky, off, os, ag, b, hb1, yes, no⟩
    have sky' : Sky B (X.env :: X.outer) a (Zc cls d) X.env.locals s'.heap := by rw [← hs]; exact sky
    refine Sky.land Zc.steady fr hf sky' fun h3 fl u => ?_
    have w : Down X pins σ' H' a cls d was B { s' with heap := h3 } := ⟨J.ofTry ok, gr, up.trans u, os, ag, off, fl⟩
    cases b with
    | true => exact w.taken hex hs hf hN hi hln hc hb1 (fun oe hz hd => hsu a oe cls d _ hz hd) (yes rfl a off)
    | false => exact w.missed hs hf hc tk hb1 (no rfl)
  refine wpAny_Try_except (wpAny_mono ((hb _ _ _ dn PassesOwn.looking).run [] s σ H D (I.toTry _) h) (fun f s1 e => ?_) fun _ _ z => z)
  have e' := sp_try ok e
  cases f with
  | next => exact wpAny_execs_nil e'
  | _ => exact e'
end
/-! ### e.f of such a value -/
def tXv (K : PySem.W.Frag) (n : Str) (te : TE) : TE := fun σ H Q => te σ H fun x H1 => ∃ (a C d : Addr) (fs : List (Str × V)) (v : V), x = .ref a ∧ H1 a = some (exk a (.ref C) (some d)) ∧ H1 d = some (.xd fs) ∧ XfC K C ∧ PySem.W.findIn K (.ref C) n = some none ∧ fs.lookup n = some v ∧ Q v H1
theorem r_xv {K : PySem.W.Frag} {n : Str} {te : TE} {σ : L2.St} {H : Hp} {Q : VK} (q : te σ H fun x H1 => ∃ (a C d : Addr) (fs : List (Str × V)) (v : V), x = .ref a ∧ H1 a = some (exk a (.ref C) (some d)) ∧ H1 d = some (.xd fs) ∧ XfC K C ∧ PySem.W.findIn K (.ref C) n = some none ∧ fs.lookup n = some v ∧ Q v H1) : tXv K n te σ H Q := q
section
variable {X : Cx} {pins : List (Addr × Obj)} {σ : L2.St} {H : Hp} {s : Shared}
theorem exk_inst {a C d : Addr} {fs : List (Str × V)} (I : Inv X pins σ H s) (ha : H a = some (exk a (.ref C) (some d))) (hd : H d = some (.xd fs)) : ∃ (oe od : Obj) (mA : Str → Option Value), PySem.W.InstAt s.heap a oe C (some od) ∧ (∀ f, PySem.W.lookIn f od = some (mA f)) ∧ ∀ f, RelO (fs.lookup f) (mA f) := by
  obtain ⟨oe, vs, h1, hz, h2⟩ := exk_at I.hok ha
  obtain ⟨mA, hns, hr⟩ := (show ObjOk X.prog X.w H s.heap d (.xd fs) from I.hok d _ hd)
  obtain ⟨od, ho, hl⟩ := lookIn_ns hns
  exact ⟨oe, od, mA, ⟨h1, hz.1, by unfold PySem.W.notCls; rw [h2] <;> rfl, by rw [hz.2]; exact ho⟩, hl, hr⟩
theorem pe_xv (K : PySem.W.Frag) {e : Expr} {te : TE} {pos : Pos} {n : Str} (he : PE X e te) (hb : attributeBase e n X.env (eval e X.env) = eval e X.env := by rfl) (hK : X.K = K := by rfl) : PE X (.Attribute e n pos) (tXv K n te) := by
  subst hK
  refine ⟨fun pins s σ H Q I h => ?_⟩
  refine attr_of hb (thn (he.run pins s σ H _ I h) fun u s1 hh => ?_)
  obtain ⟨x, H1, I1, rx, a, C, d, fs, v, ex, ha, hd, T, hno, l, q⟩ := hh
  subst ex
  obtain rfl : u = Value.ref a := rx
  obtain ⟨oe, od, mA, J, hl, hr⟩ := exk_inst I1 ha hd
  obtain ⟨u, hu, ru⟩ := RelO.some_of (v := v) (o := mA n) (by rw [← l]; exact hr n)
  exact HandSPX.exc_get I1.kIn J T.ga T.gg T.exC (PySem.W.findObj_own T.hdC hno rfl (by rw [hl, hu])) (handed_of ru) ⟨v, H1, I1.tok _, ru, q⟩
end
/-- an own error, with a dict or without, for isinstance -/
theorem kit_err {K : PySem.W.Frag} {x D : Addr} {ox : Obj} {od : Option Obj} (C : ExcC K D) : PySem.W.KitX K (.ref x) (.ref D) (fun h => PySem.W.InstAt h x ox D od) :=
  PySem.W.kitx_exc (by obtain ⟨cd, e, -⟩ := PySem.W.any_some C.hd; rw [e]; rfl) C.hg C.hk C.hs C.ha C.hn C.ht C.hm
def rIsV (K : PySem.W.Frag) : List V → Hp → VK → Prop := fun xs H Q => ∃ (a D d : Addr) (fs : List (Str × V)) (c : V) (u : Value) (b : Bool), xs = [.ref a, c] ∧ H a = some (exk a (.ref D) (some d)) ∧ H d = some (.xd fs) ∧ ExcC K D ∧ ClsV c u ∧ PySem.W.kitOne K (.ref D) u = some b ∧ Q (.bl b) H
def rIsiB (K : PySem.W.Frag) : List V → Hp → VK → Prop := fun xs H Q => rIsi K xs H Q ∨ rIsV K xs H Q
theorem call_isV {X : Cx} : CallR X (.builtin "isinstance") (rIsV X.K) := by
  intro pins s σ H xs us Q I r h
  obtain ⟨a, D, d, fs, c, u, b, rfl, ha, hd, C, k, e, q⟩ := h
  obtain ⟨u1, u2, rfl, r1, r2⟩ := vals2 r
  cases r1
  have e2 := k.eq r2
  subst e2
  obtain ⟨oe, od, mA, J, _, _⟩ := exk_inst I ha hd
  exact PySem.W.kia_one (kit_err C) I.kIn J e (fun z => nomatch z) fun tk => ⟨.bl b, H, I.tok tk, rfl, q⟩
theorem call_isB {X : Cx} (K : PySem.W.Frag) (hK : X.K = K := by rfl) : CallR X (.builtin "isinstance") (rIsiB K) := by
  subst hK
  exact call_isi.or call_isV
end WP

set_option Elab.async false
set_option linter.all false
set_option maxRecDepth 100000
set_option maxHeartbeats 400000
/-! slices whose end may be None -/
namespace WP
open PySem PySem.Spec PyProof.Rows L2
def tPartN (t : TE) : TO := fun σ H Q => t σ H fun x H1 => (∃ i, x = .int i ∧ Q (some i) H1) ∨ (x = .non ∧ Q none H1)
theorem r_partN {t : TE} {σ : L2.St} {H : Hp} {Q : Option Int → Hp → Prop} (q : t σ H fun x H1 => (∃ i, x = .int i ∧ Q (some i) H1) ∨ (x = .non ∧ Q none H1)) : tPartN t σ H Q := q
theorem po_someN {X : Cx} {e : Expr} {te : TE} (h : PE X e te) : PO X (some e) (tPartN te) := by
  refine ⟨fun pins s σ H Q I hw => ?_⟩
  rw [evalPart_some]
  refine thn (h.run pins s σ H _ I hw) fun u s1 ⟨x, H1, I1, r1, q1⟩ => ?_
  rcases q1 with ⟨i, rfl, q⟩ | ⟨rfl, q⟩
  · obtain ⟨t, rfl⟩ := r1
    exact ⟨some i, H1, I1, .int i t, q⟩
  · cases r1
    exact ⟨none, H1, I1, .none, q⟩
/-! ### what is due -/
def dueVal (ds : List PyData) : V := match famD [] ds with
  | .inl k => .int (k : Nat)
  | .inr _ => .non
theorem fits_shape {ns : List Str} {d : PyData} {q : Str × Str} (h : fitsP ns d = some q) : ∃ e, d = .tuple [.str q.1, e] := by
  unfold fitsP at h
  split at h
  · split at h
    · cases h; exact ⟨_, rfl⟩
    · cases h
  · split at h
    · cases h; exact ⟨_, rfl⟩
    · cases h
  · cases h
theorem famD_lt : ∀ {xs : List PyData} {acc : Prs} {k : Nat}, famD acc xs = .inl k → acc.length ≤ k ∧ k < acc.length + xs.length
  | [], acc, k, e => by cases e
  | d :: r, acc, k, e => by
    rw [famD_cons] at e
    cases hq : fitsP (famKeys acc) d with
    | none =>
      rw [hq] at e
      have e : (Sum.inl acc.length : Nat ⊕ Prs) = .inl k := e
      injection e with e
      rw [List.length_cons]
      omega
    | some q =>
      rw [hq] at e
      obtain ⟨h1, h2⟩ := famD_lt e
      rw [List.length_append, List.length_singleton] at h1 h2
      rw [List.length_cons]
      omega
end WP

set_option Elab.async false
set_option linter.all false
set_option maxRecDepth 100000
set_option maxHeartbeats 4000000
/-! own errors over any builtin error B: W4, W5 and the kit's lemmas for ValueError, with the base left open -/
namespace WP
open PySem PySem.Spec PyProof.Rows L2
/-- own classes, then the tail -/
abbrev refsT (tl : List Value) : List Value → Bool := PySem.W.excTail tl
structure BaseX (B n i : String) (tl : List Value) : Prop where
  F : ExcBaseFacts B n i tl
  S : PySem.W.KxsFacts B i
  st : StoreFacts B tl "object.__setattr__" "object"
abbrev tailOf (B : String) : List Value := [.type B, .type "Exception", .type "BaseException", .type "object"]
theorem base_LookupError : BaseX "LookupError" "LookupError.__new__" "LookupError.__init__" (tailOf "LookupError") := ⟨F.excBase_LookupError, PySem.W.kxs_LookupError, F.store_LookupError⟩
theorem base_RuntimeError : BaseX "RuntimeError" "RuntimeError.__new__" "RuntimeError.__init__" (tailOf "RuntimeError") := ⟨F.excBase_RuntimeError, PySem.W.kxs_RuntimeError, F.store_RuntimeError⟩
theorem base_ValueError : BaseX "ValueError" "ValueError.__new__" "ValueError.__init__" (tailOf "ValueError") := ⟨F.excBase_ValueError, PySem.W.kxs_ValueError, F.store_ValueError⟩
/-- a class over such a base, as a store looks at it -/
structure Over (K : PySem.W.Frag) (C : Addr) (tl : List Value) (f : Str) : Prop where
  cls : ∃ cd, PySem.W.clsIn K C = some cd ∧ cd.hasDict = true
  up : PySem.W.excOver K C tl = true
  no : PySem.W.takerIn K C f = some none
/-- the first field of an own error: a dict is laid for it -/
theorem first_field {Bb nb ib : String} {tl : List Value} (BX : BaseX Bb nb ib tl) {prog : Program} {w : World} {A : Around} {R : Result → Shared → Prop} {s : Shared} {K : PySem.W.Frag} {f : Str} {tk : Tok} {v : Value} {a C t1 : Addr} (O : Over K C tl f) (X : K.In s.heap) (ha : s.heap.get? a = some (bare C t1 none))
    (done : ∀ h' tk', (∀ b o, b ≠ a → s.heap.get? b = some o → h'.get? b = some o) → h'.get? a = some (bare C t1 (some s.heap.objs.size)) → h'.Ns1 s.heap.objs.size (fun y => if y = f then some v else none) → R (.ok (.ret .none)) { s with heap := h', toks := tk' }) :
    codeAny (model prog w) A (.call (.builtin "object.__setattr__") ⟨[.ref a, .str f tk, v], []⟩) R s := by
  obtain ⟨cd, hC, hd⟩ := O.cls
  obtain ⟨hp, g, d, t, os⟩ := s
  have ne : a ≠ hp.objs.size := Nat.ne_of_lt (Heap.lt_size ha)
  refine PySem.W.osa_openX (od := none) BX.st X ⟨ha, rfl, rfl, trivial⟩ O.up O.no fun b => ?_
  refine wpAny_bind (wpAny_pure (wpAny_bind (PySem.W.instanceDict_exc ha (PySem.W.looks_clsIn X hC) hd ?_)))
  refine PX.store_in_new ⟨PySem.W.dictOf [] 0, #[], 0, (Heap.get?_update_ne _ _ _ _ ne.symm).trans (Heap.get?_push_at rfl rfl), rfl, fun e he => absurd he (by simp), fun _ => rfl⟩ fun h' tk' hn sb => done h' tk' (fun b o nb e => ?_) ?_ hn
  · rw [sb.2 b (Nat.ne_of_lt (Heap.lt_size e)), Heap.get?_update_ne _ _ _ _ nb]
    exact Heap.get?_push_of_some _ e
  · rw [sb.2 a ne]
    exact Heap.get?_update_self _ (Heap.get?_push_of_some _ ha) rfl
/-- a further field -/
theorem next_field {Bb nb ib : String} {tl : List Value} (BX : BaseX Bb nb ib tl) {prog : Program} {w : World} {A : Around} {R : Result → Shared → Prop} {s : Shared} {K : PySem.W.Frag} {f : Str} {tk : Tok} {v : Value} {a C t1 dx : Addr} {m : Str → Option Value} {ns : List Str} (O : Over K C tl f) (X : K.In s.heap)
    (ha : s.heap.get? a = some (bare C t1 (some dx))) (hn : s.heap.Ns1 dx m) (hw : Within m ns) (hz : ns.length ≤ 1000)
    (done : ∀ h' tk', (∀ b o, b ≠ dx → s.heap.get? b = some o → h'.get? b = some o) → h'.Ns1 dx (fun y => if y = f then some v else m y) → R (.ok (.ret .none)) { s with heap := h', toks := tk' }) :
    codeAny (model prog w) A (.call (.builtin "object.__setattr__") ⟨[.ref a, .str f tk, v], []⟩) R s := by
  obtain ⟨cd, hC, hd⟩ := O.cls
  obtain ⟨hp, g, d, t, os⟩ := s
  obtain ⟨od, -, -, ho, -⟩ := hn.count hw
  refine PySem.W.osa_openX (od := some od) BX.st X ⟨ha, rfl, rfl, ho⟩ O.up O.no fun b => ?_
  refine wpAny_bind (wpAny_pure (wpAny_bind (wpAny_bind (wpAny_loadPart ha (wpAny_bind ((PySem.W.looks_clsIn X hC).here ?_))))))
  rw [hd]
  refine wpAny_pure (a := some dx) (PX.store_in_old hn hw hz fun h' tk' hn' sb => done h' tk' (fun b o nb e => ?_) hn')
  rw [sb.2 b nb]
  exact e
/-- what the written part says of the class -/
structure OexG (K : PySem.W.Frag) (C : Addr) (B n i : String) (tl : List Value) : Prop where
  bx : BaseX B n i tl
  cls : ∃ nm q N bs bm sn sub ab col dd k0 k1 k2 k3 k5, K.lookup C = some (excClassObj nm q C N bs bm true sn sub ab col dd k0 k1 k2 k3 k5 n) ∧ refsT tl bm = true
  sa : PySem.W.findIn K (.ref C) "__setattr__" = some (some (.builtin "object.__setattr__"))
  exC : PySem.W.subIn K (.ref C) (.type "BaseException") = some true
  tyC : PySem.W.typeIn K (.ref C) = some (.type "type")
  kC : PySem.W.keepIn K (.ref C) = true

theorem OexG.over {K : PySem.W.Frag} {C : Addr} {Bb nb ib : String} {tl : List Value} {f : Str} (T : OexG K C Bb nb ib tl) (no : PySem.W.findIn K (.ref C) f = some none) : Over K C tl f := by
  obtain ⟨nm, q, N, bs, bm, sn, sub, ab, col, dd, k0, k1, k2, k3, k5, e, hbm⟩ := T.cls
  have c : ∃ cd, PySem.W.clsIn K C = some cd ∧ cd.hasDict = true ∧ cd.mro = .ref C :: bm := ⟨_, by unfold PySem.W.clsIn; rw [e] <;> rfl, rfl, rfl⟩
  obtain ⟨cd, h1, h2, h3⟩ := c
  refine ⟨⟨cd, h1, h2⟩, ?_, by unfold PySem.W.takerIn; rw [no]; rfl⟩
  unfold PySem.W.excOver
  rw [h1, Option.any_some, h3]
  simpa using hbm
section
variable {X : Cx} {pins : List (Addr × Obj)} {σ : L2.St} {H : Hp} {s : Shared} {a C dx : Addr} {f : Str} {y : V} {u : Value} {fs : List (Str × V)} {Q : Unit → Shared → Prop} {E : Value → Shared → Prop} {A : Around} {Bb nb ib : String} {tl : List Value}
theorem upd_comm {H : Hp} {a b : Addr} {o u : HO} (h : a ≠ b) : upd (upd H a o) b u = upd (upd H b u) a o := funext fun c => by
  by_cases ca : c = a
  · subst ca
    rw [upd_ne h, upd_same, upd_same]
  · rw [upd_ne ca]
    by_cases cb : c = b
    · subst cb
      rw [upd_same, upd_same]
    · rw [upd_ne cb, upd_ne cb, upd_ne ca]
theorem ost_newG (T : OexG X.K C Bb nb ib tl) (I : Inv X pins σ H s) (e : H a = some (exo a C none)) (hno : PySem.W.findIn X.K (.ref C) f = some none) (ry : RelV y u)
    (h : ∀ dx s', H dx = none → dx ≠ a → Inv X pins σ (upd (upd H dx (exd dx [(f, y)])) a (exo a C (some dx))) s' → Q () s') : wpAny (model X.prog X.w) A (setAttr (.ref a) f u) Q E s := by
  obtain ⟨t1, ho⟩ := exo_at I.hok e
  obtain ⟨hp, g, d, t, os⟩ := s
  refine PySem.W.set_plain I.kIn (od := none) ⟨ho, rfl, rfl, trivial⟩ T.sa (first_field T.bx (T.over hno) I.kIn ho fun h' tk' keep ha hn => ?_)
  have na : a ≠ hp.objs.size := Nat.ne_of_lt (Heap.lt_size ho)
  have nd : H hp.objs.size = none := I.hok.fresh (Nat.le_refl _)
  obtain ⟨od, es, ep, hod, isd, -⟩ := id hn
  have J := I.write (t' := tk') (x := a) (e := a) (o := exo a C (some hp.objs.size)) (by rw [e]; trivial) (.inl rfl) keep ⟨_, ha⟩ (exo_ok ha)
  have old : ∀ {b : Addr} {o : Obj}, hp.get? b = some o → b ≠ hp.objs.size := fun z => Nat.ne_of_lt (Heap.lt_size z)
  have J2 := inv_track (o := exd hp.objs.size [(f, y)]) J hod (fun v z => by rw [isd] at z; cases z) (by
      rcases z : X.s_0.heap.get? hp.objs.size with _ | o
      · rfl
      · exact absurd (Nat.lt_of_lt_of_le (Heap.lt_size z) I.sz) (Nat.lt_irrefl _))
    (by rw [upd_ne na.symm]; exact nd) (Nat.ne_of_gt I.lt) (fun p hp' => old (I.pin p hp').1) (exd_ok hn (relO_put (fs := []) ry fun _ => trivial))
  rw [upd_comm na] at J2
  exact h _ _ nd na.symm J2
theorem ost_oldG (T : OexG X.K C Bb nb ib tl) (I : Inv X pins σ H s) (e : H a = some (exo a C (some dx))) (ed : H dx = some (exd dx fs)) (hl : fs.length ≤ 900) (hno : PySem.W.findIn X.K (.ref C) f = some none) (ry : RelV y u)
    (h : ∀ s', Inv X pins σ (upd H dx (exd dx ((f, y) :: fs))) s' → Q () s') : wpAny (model X.prog X.w) A (setAttr (.ref a) f u) Q E s := by
  obtain ⟨t1, ho⟩ := exo_at I.hok e
  obtain ⟨m, hn, rel⟩ := exd_at I.hok ed
  obtain ⟨od, -, -, hod, -⟩ := hn.count (within_of rel)
  obtain ⟨hp, g, d, t, os⟩ := s
  refine PySem.W.set_plain I.kIn (od := some od) ⟨ho, rfl, rfl, hod⟩ T.sa (next_field T.bx (T.over hno) I.kIn ho hn (within_of rel) (by simp only [List.length_map]; omega) fun h' tk' keep hn' => h _ ?_)
  obtain ⟨o, -, -, q, -⟩ := id hn'
  exact I.write (t' := tk') (x := dx) (e := dx) (o := exd dx ((f, y) :: fs)) (by rw [ed]; trivial) (.inl rfl) keep ⟨o, q⟩ (exd_ok hn' (relO_put ry rel))
end

def tOstG (K : PySem.W.Frag) (Bb nb ib : String) (tl : List Value) (f : Str) (to te : TE) : TS := fun D σ H => te σ H fun y H1 => to σ H1 fun x H2 => ∃ a C : Addr, x = .ref a ∧ OexG K C Bb nb ib tl ∧ PySem.W.findIn K (.ref C) f = some none ∧
  H2 a = some (exo a C none) ∧ ∀ dx, H2 dx = none → dx ≠ a → D.nx σ (upd (upd H2 dx (exd dx [(f, y)])) a (exo a C (some dx)))
theorem ps_ostG {X : Cx} {o e : Expr} {to te : TE} {f : Str} {p' pos : Pos} {Bb nb ib : String} {tl : List Value} (ho : PE X o to) (he : PE X e te) (hs : swapsWith e (some (.Attribute o f p')) pos.line X.env = pure false := by rfl) : PS X (.Assign [.Attribute o f p'] e pos) (tOstG X.K Bb nb ib tl f to te) := by
  refine ⟨fun pins s σ H D I h => ?_⟩
  refine plainObj_wpAny_Assign_Attribute (thn (he.run pins s σ H _ I h) fun v s1 ⟨y, H1, I1, r1, q1⟩ => thn (ho.run pins s1 σ H1 _ I1 q1) fun u s2 ⟨x, H2, I2, r2, a, C, ex, T, hno, ea, q⟩ => ?_) hs
  subst ex
  obtain rfl : u = Value.ref a := r2
  exact ost_newG T I2 ea hno r1 fun dx s' n ne J => ⟨σ, _, J, q dx n ne⟩

/-- the class of an own error is called: the error is laid and its __init__ runs on it; what is to be said behind that is left open -/
theorem err_call {X : Cx} {CX : CXT} {k : Nat} {C fI : Addr} {fd : FuncData} {ps : List Str} {sp : Sp} {ds : List Value} {dvs : List V} {pins : List (Addr × Obj)} {σ : L2.St} {H : Hp} {s : Shared} {us : List Value} {vs : List V} {Q : Value → Shared → Prop} {G : Addr → Hp → Prop} {Bb nb ib : String} {tl : List Value}
    (T : OexG X.K C Bb nb ib tl) (iC : PySem.W.findIn X.K (.ref C) "__init__" = some (some (.ref fI))) (tI : PySem.W.typeIn X.K (.ref fI) = some (.type "function")) (F1 : FnOk X.prog X.w X.K X.mg X.base CX k fI fd ps sp) (hr : Room (k + 1) X.A) (hb : Binds X.K fd ps ds) (hd : Vals dvs ds)
    (hx : Passes CX X (fun _ _ _ => False)) (I : Inv X pins σ H s) (r : Vals vs us) (hz : vs.length ≤ 1000) (q : ∀ a, H a = none → sp (.ref a :: (vs ++ dvs)) (upd H a (exo a C none)) (fun v H2 => v = .non ∧ G a H2) (fun _ _ _ => False))
    (done : ∀ (a : Addr) (h1 : Heap) (s' : Shared) (H2 : Hp), s.heap.objs.size ≤ a → (∀ b o, s.heap.get? b = some o → h1.get? b = some o) → Inv X pins σ (upd H a (exo a C none)) { s with heap := h1 } → s'.os = s.os → AllBare s'.gens →
      Un (frs X.stack) [] (upd H a (exo a C none)) H2 h1 s'.heap → HOk X.prog X.w H2 s'.heap → G a H2 → Q (.ref a) s') : wpAny (model X.prog X.w) X.A (call (.ref C) us) Q X.xe s := by
  obtain ⟨nm, qn, N, bs, bm, sn, sub, ab, col, dd, k0, k1, k2, k3, k5, hC, hbm⟩ := T.cls
  obtain ⟨hp, g, d, t, os⟩ := s
  have small : us.length ≤ sizeLine := by rw [← Paired.length r, sizeLine_eq]; omega
  refine wpAny_call (PX.call_own T.bx.F (fun Y => PySem.W.excTail_contains Y bm hbm) (I.kIn _ _ hC) (PySem.W.looks_findIn I.kIn iC) (fun self => PySem.W.bind_fn I.kIn self tI) small ?_)
  have up : ∀ b o, hp.get? b = some o → ((hp.push (PySem.W.kdv_tup us)).push (PX.excO C hp.objs.size)).get? b = some o := fun b o e => Heap.get?_push_of_some _ (Heap.get?_push_of_some _ e)
  have J : Inv X pins σ (upd H (hp.objs.size + 1) (exo (hp.objs.size + 1) C none)) ⟨(hp.push (PySem.W.kdv_tup us)).push (PX.excO C hp.objs.size), g, d, t, os⟩ :=
    I.laid (t' := t) up (Nat.le_succ _) (exo_ok (t1 := hp.objs.size) (by heap_get))
  have free : H (hp.objs.size + 1) = none := I.hok.fresh (Nat.le_succ _)
  generalize (hp.push (PySem.W.kdv_tup us)).push (PX.excO C hp.objs.size) = h1 at up J ⊢
  have le : hp.objs.size ≤ hp.objs.size + 1 := Nat.le_succ _
  generalize hp.objs.size + 1 = a at J free le ⊢
  have r' : Vals (V.ref a :: (vs ++ dvs)) (Value.ref a :: (us ++ ds)) := .cons rfl (r.append hd)
  have many := r'.length.symm.trans (F1.len _ _ _ _ (q a free))
  refine codeAny_mono (F1.run _ X.stack _ _ ⟨.ref a :: us, []⟩ _ _ _ (fun _ _ _ => False) (hr.make C us []) (J.env0.make C us []) (hb _ (.ref a :: us) J.kIn many) r' (q a free)) fun res s' e => ?_
  rcases res with er | (_ | _ | _ | u)
  · exact hx pins σ _ _ er s' J e
  · exact e.elim
  · exact e.elim
  · exact e.elim
  · obtain ⟨v, H2, o2, b2, un, ok2, rv, rfl, z⟩ := e
    exact ⟨rv, done a h1 s' H2 le up J o2 b2 un ok2 z⟩
theorem pmk_oexG {X : Cx} {e : Expr} {es : List Expr} {ta : TA} {p pos : Pos} {Bb nb ib : String} {tl : List Value} {CX : CXT} {x : Str} {C fI : Addr} {k : Nat} {fd : FuncData} {ps : List Str} {sp : Sp} {ds : List Value} {dvs : List V} (T : OexG X.K C Bb nb ib tl) (iC : PySem.W.findIn X.K (.ref C) "__init__" = some (some (.ref fI))) (tI : PySem.W.typeIn X.K (.ref fI) = some (.type "function"))
    (F1 : FnOk X.prog X.w X.K X.mg X.base CX k fI fd ps sp) (hr : Room (k + 1) X.A) (hb : Binds X.K fd ps ds) (hd : Vals dvs ds) (hx : Passes CX X (fun _ _ _ => False)) (hg : Gl X x) (hm : X.mg x = some (.ref C)) (ha : PA X (e :: es) ta)
    (hdb : (x == ("__debug__" : Str)) = false := by decide) (he : starEach (e :: es) X.env = (false, eval e X.env) :: starEach es X.env := by rfl) (hpl : (backTo pos (starEach es X.env)).any (·.1) = false := by rfl) :
    PMk X (.Call (.Name x p) (e :: es) [] pos) (tMkO C sp dvs ta) := fun pins s σ H Q I h =>
  wpAny_Call_Name_kw (ld_glob I hg hm (PySem.W.callWith_K (h₀ := X.base) I.ok.mod.kin T.kC (thn (ha.run pos pins s σ H _ I h) fun us s1 ⟨vs, H1, I1, r1, hz, q1⟩ => ⟨I1.kIn, by
    obtain ⟨hp, g, d, t, os⟩ := s1
    refine err_call T iC tI F1 hr hb hd hx I1 r1 hz q1 fun a h1 s' H2 le up J o2 b2 un ok2 ⟨d, fs, ea, ed, hd1, z⟩ => ?_
    obtain ⟨h2, g2, d2, t2, os2⟩ := s'
    exact mk_end (raises_own T.exC T.tyC) I1 le up un ok2 o2 b2 ea ed hd1 z⟩) he hpl) hdb)

section
variable {X : Cx} {pins : List (Addr × Obj)} {σ : L2.St} {H : Hp} {s : Shared} {a C D f c cc : Addr} {body : List Stmt} {p0 p1 p2 p3 p4 p5 : Pos} {z : Str} {kk : Nat} {E : Value → Shared → Prop}
  {oc : Value} {od : Option Addr} {fd : FuncData} {osl : Array (Option Value)} {ar : Arg} {Q : Flow → Shared → Prop} {Bb nb ib : String} {tl : List Value}
/-- the wrapper is called -/
theorem mw_callG {u : Addr} {us : List Value} {Q : Value → Shared → Prop} (T : OexG X.K C Bb nb ib tl) (I : Inv X pins σ H s) (ea : H a = some (exo a C none)) (hu : s.heap.get? u = some (PySem.W.kxs_mw ib a)) (hl : us.length ≤ sizeLine) (h : ∀ s', Inv X pins σ H s' → Q .none s') :
    wpAny (model X.prog X.w) X.A (call (.ref u) us) Q E s :=
  wrapper_inv T.bx.F (by
    obtain ⟨nm, q, N, bs, bm, sn, sub, ab, col, dd, k0, k1, k2, k3, k5, z, _⟩ := T.cls
    exact ⟨nm, q, N, bs, bm, true, sn, sub, ab, col, dd, k0, k1, k2, k3, k5, z⟩) I ea hu hl h
theorem sup_stepG (T : OexG X.K C Bb nb ib tl) (U : SupIn X.prog X.K Bb ib C D c cc) (I : Inv X pins σ H s) (hks : X.env.kindOf "super" = some .globalImplicit) (hkc : X.env.kindOf "__class__" = some .free) (hfu : X.env.func = some f) (hco : X.env.code = .ref c)
    (hcl : X.env.cells.lookup ("__class__" : Str) = some cc) (hm : X.mg "super" = none) (hf : X.K.lookup f = some ⟨oc, od, .func fd, osl⟩) (hp : (fd.params.posonlyargs ++ fd.params.args).head? = some ar)
    (hN : X.N[0]? = some ar.arg) (hka : X.env.kindOf ar.arg = some .local) (hσ : σ[0]? = some (some (.ref a))) (ea : H a = some (exo a C none)) (hi : interactive X.env = false) {pl : Sem Bool}
    (he : eval (.Call (.Attribute (.Call (.Name "super" p0) [] [] p1) "__init__" p2) [.Constant (.str z) kk p3] [] p4) X.env = (do
      let ov ← attributeBase (.Call (.Name "super" p0) [] [] p1) "__init__" X.env (eval (.Call (.Name "super" p0) [] [] p1) X.env)
      standAt p2.atName
      let (f, first) ← holding [ov] (getMethod ov "__init__" pl)
      callWith p4 f first (backTo p4 (starEach [.Constant (.str z) kk p3] X.env)) [])) (hQ : ∀ s', Inv X pins σ H s' → Q .next s') :
    _root_.PySem.wpAt (model X.prog X.w) X.A (.func body X.env) (exec (.Expr (.Call (.Attribute (.Call (.Name "super" p0) [] [] p1) "__init__" p2) [.Constant (.str z) kk p3] [] p4) p5) X.env) Q X.xe s := by
  have KX := I.kIn
  obtain ⟨ccl, cdd, vs, ccs, file, tf, hcode, hvs, hfile⟩ := U.code
  obtain ⟨cl, cld, csl, hcell⟩ := U.cell
  obtain ⟨cdD, hD⟩ := U.cls
  obtain ⟨oD, hD1, hD2⟩ : ∃ oD, s.heap.get? D = some oD ∧ oD.data = .cls cdD := by
    unfold PySem.W.clsIn at hD
    split at hD
    · rename_i c d cd' sl ho
      cases hD
      exact ⟨_, KX _ _ ho, rfl⟩
    · cases hD
  obtain ⟨m, hns, hlo⟩ := I.loc
  obtain ⟨v, rv, hv⟩ := hlo 0 _ _ hN hσ (.inl hka)
  obtain rfl : v = Value.ref a := rv
  have hv : m ar.arg = some (.ref a) := by
    rcases hv with ⟨_, hv⟩ | ⟨hk, _⟩
    · exact hv
    · rcases hk with hk | hk <;> rw [hka] at hk <;> cases hk
  obtain ⟨t1, ho⟩ := exo_at I.hok ea
  obtain ⟨nm, q, N, bs, bm, sn, sub, ab, col, dd, k0, k1, k2, k3, k5, hC, hbm⟩ := T.cls
  have hclC : PySem.W.clsIn X.K C = some { name := nm, bases := bs, mro := .ref C :: bm, ns := N, qualname := q, hasDict := true, slotNames := sn, subclasses := sub, abstract := ab, collection := col, hasDel := false } := by unfold PySem.W.clsIn; rw [hC] <;> rfl
  refine ks_wpAt_Expr_any ?_ hi
  refine ks_wpAt_MethodCall ?_ he
  refine ks_wpAt_super_base (env := X.env) hks hkc (by decide) hfu (KX _ _ hf) rfl hp hco (KX _ _ hcode) rfl hvs hfile U.top ?_
  obtain ⟨mb, b1, b2⟩ := I.mod.blt
  refine PySem.W.ks_loadName_global I.ok.kind hks (PySem.Calls.loadGlobal_builtin (by rw [I.ok.glob]; exact I.mod.glob.keeps I.bk) hm (by rw [I.ok.blt]; exact b1.keeps I.bk) ((b2 _ (by decide)).trans PyProof.Rows.Boot.«super») ⟨rfl, ?_⟩)
  refine wpAny_loadName_free I.ok.kind hkc hcl ⟨_, KX _ _ hcell, rfl⟩ ?_
  refine wpAny_loadName_local I.ok.kind hka hns hv ?_
  refine ks_wpAny_isType_cls hD1 hD2 ⟨rfl, ?_⟩
  obtain ⟨hh, g, d, t, os⟩ := s
  refine ks_wpAny_call_super hD1 hD2 ho rfl (fun c e => by cases e) (PySem.W.looks_mroIn KX U.msub) (fun h' e k => ?_)
  have I2 : Inv X pins σ H ⟨h', g, d, t, os⟩ := I.kept (t' := t) k
  have hm2 := U.sup
  unfold PySem.W.ks_superIn at hm2
  rw [hclC] at hm2
  have hI : PySem.W.Looks (model X.prog X.w) h' (isInstance (.ref a) (.type Bb)) true := (PySem.W.InstAt.type (x := a) (od := none) ⟨k _ _ ho, rfl, rfl, trivial⟩).andThen (PySem.W.looks_subIn I2.kIn U.subB)
  have hac : a ≠ C := fun e => by
    have h1 : hh.get? C = _ := KX _ _ hC
    rw [← e, ho] at h1
    cases h1
  refine PySem.W.kxs_getMethod T.bx.S e (PySem.W.looks_opaque I2.kIn U.opq) (l₀ := .ref C :: bm) ?_ rfl I2.kIn hm2 hI hac (by decide) ?_
  · exact fun A Q E s k q => wpAny_bind ((PySem.W.looks_clsIn I2.kIn hclC) A _ E s k (wpAny_pure q))
  have hpu : ∀ b o, h'.get? b = some o → (h'.push (PySem.W.kxs_mw ib a)).get? b = some o := fun b o e => Heap.get?_push_of_some _ e
  have hmw : (h'.push (PySem.W.kxs_mw ib a)).get? h'.objs.size = some (PySem.W.kxs_mw ib a) := Heap.get?_push_at rfl rfl
  have I3 : Inv X pins σ H ⟨h'.push (PySem.W.kxs_mw ib a), g, d, t + 1, os⟩ := I2.kept (t' := t + 1) hpu
  have nu : H h'.objs.size = none := I2.hok.fresh (Nat.le_refl _)
  have I5 : Inv X (pins ++ [(h'.objs.size, PySem.W.kxs_mw ib a)]) σ H ⟨h'.push (PySem.W.kxs_mw ib a), g, d, t + 1, os⟩ := ⟨I3.ok, I3.os, I3.bare, I3.base, I3.loc, I3.cell, I3.free, I3.freeC, fun p hp => by
    rw [← List.append_assoc] at hp
    rcases List.mem_append.mp hp with hp | hp
    · exact I3.pin p hp
    · rw [List.mem_singleton.mp hp]
      exact ⟨hmw, nu, Nat.ne_of_gt I2.lt, I2.nofs (Nat.le_refl _), fun v e => by cases e⟩, I3.hok, I3.len⟩
  generalize h'.objs.size = u at I5 hmw nu ⊢
  generalize h'.push (PySem.W.kxs_mw ib a) = h3 at I5 I3 hmw hpu ⊢
  refine PySem.W.kxs_callWith (i := ib) (x := a) rfl ?_
  refine PySem.Calls.evalArgs_plain ?_
  refine thn ((pa_cons (pe_str (x := z) (j := kk) (pos := p3)) pa_nil : PA X [.Constant (.str z) kk p3] (tCons (tC (.str z)) tNil)).run p4 _ _ σ H (fun vs H1 => vs = [.str z] ∧ H1 = H) I5 ⟨rfl, rfl⟩) fun us s1 ⟨vs, H1, I4, rv, ev, eH⟩ => ?_
  subst eH ev
  have hpin := (I4.pin (u, PySem.W.kxs_mw ib a) (List.mem_append_right _ (List.mem_append_right _ (List.mem_singleton.mpr rfl)))).1
  have I6 : Inv X pins σ H1 s1 := I4.unpinned
  have hl : us.length ≤ sizeLine := by
    rw [← Paired.length rv, sizeLine_eq]
    simp
  exact ⟨hpin, mw_callG T I6 ea hpin hl hQ⟩
end
/-- the __init__ of such a class, by the rest of its body -/
theorem fn_supG {Bb nb ib : String} {tl : List Value} {CX : CXT} {P : Program} {w : World} {K : PySem.W.Frag} {mg : Str → Option Value} {base : Heap} {k : Nat} {f c cc D : Addr} {name qual : Str} {params : Arguments} {rest : List Stmt} {scope : Scope} {dV kV doc pm ct oc : Value} {an od : Option Addr}
    {osl : Array (Option Value)} {N ps : List Str} {sp : Sp} {p0 p1 p2 p3 p4 p5 : Pos} {z : Str} {kk : Nat} {ar : Arg}
    (lk : K.lookup f = some ⟨oc, od, .func (PySem.W.fnX name qual params (.Expr (.Call (.Attribute (.Call (.Name "super" p0) [] [] p1) "__init__" p2) [.Constant (.str z) kk p3] [] p4) p5 :: rest) scope [("__class__", cc)] dV kV doc pm an (.ref c) ct), osl⟩)
    (hcd : PySem.W.codeIn K (.ref c) qual = true) (S : NdefX.NScope N ps ["__class__"] scope) (hm : mg "super" = none) (hp : (params.posonlyargs ++ params.args).head? = some ar) (hN : N[0]? = some ar.arg) (hka : scope.names.lookup ar.arg = some .local)
    (hks : scope.names.lookup ("super" : Str) = some .globalImplicit)
    (he : ∀ env, ∃ pl, eval (.Call (.Attribute (.Call (.Name "super" p0) [] [] p1) "__init__" p2) [.Constant (.str z) kk p3] [] p4) env = (do
      let ov ← attributeBase (.Call (.Name "super" p0) [] [] p1) "__init__" env (eval (.Call (.Name "super" p0) [] [] p1) env)
      standAt p2.atName
      let (f, first) ← holding [ov] (getMethod ov "__init__" pl)
      callWith p4 f first (backTo p4 (starEach [.Constant (.str z) kk p3] env)) []))
    (len : ∀ vs H Q E, sp vs H Q E → vs.length = ps.length)
    (hbody : ∀ (A : Around) (outer : List Env) (s : Shared) (H : Hp) (vs : List V) (Q : VK) (E : XK), sp vs H Q E →
      (∃ (a C : Addr) (ws : List V), vs = .ref a :: ws ∧ OexG K C Bb nb ib tl ∧ SupIn P K Bb ib C D c cc ∧ H a = some (exo a C none)) ∧
      ∃ t, PSs (NdefX.ncx CX P w K mg base N ⟨name, qual, params, rest, scope, [("__class__", cc)], c⟩ f A outer s H E) rest t ∧ t { nx := fun _ H' => Q .non H', rt := Q } (NdefX.startF N vs [none]) H) :
    FnOk P w K mg base CX (k + 1) f (PySem.W.fnX name qual params (.Expr (.Call (.Attribute (.Call (.Name "super" p0) [] [] p1) "__init__" p2) [.Constant (.str z) kk p3] [] p4) p5 :: rest) scope [("__class__", cc)] dV kV doc pm an (.ref c) ct) ps sp := by
  refine ⟨len, fun A outer s H args us vs Q E hr e0 hb r hsp => ?_⟩
  have hl := len _ _ _ _ hsp
  have KX : K.In s.heap := e0.mod.kin.keeps fun b o e => (e0.bs b o e).1
  have lim : s.heap.NoLimit := e0.mod.nolimit.keeps fun b o e => (e0.bs b o e).1
  obtain ⟨⟨a, C, ws, rfl, T, U, ea⟩, t, ht, hq⟩ := hbody A outer s H vs Q E hsp
  obtain ⟨cl, cld, csl, hcell⟩ := U.cell
  have CA : NdefX.CellsAt [(("__class__" : Str), cc)] ["__class__"] [none] s.heap H := ⟨rfl, fun y c' e => by
      have e' := PySem.mem_of_lookup e
      rw [List.mem_singleton] at e'
      injection e' with e1 e2
      subst e2
      exact ⟨(e0.bs _ _ (e0.mod.kin _ _ hcell)).2, _, _, KX _ _ hcell, rfl⟩, fun x y c' h1 h2 => by
      have e1 := PySem.mem_of_lookup h1
      have e2 := PySem.mem_of_lookup h2
      rw [List.mem_singleton] at e1 e2
      injection e1 with e1 _
      injection e2 with e2 _
      rw [e1, e2], fun i y h => by
      have : y = ("__class__" : Str) := by
        have := List.mem_of_getElem? h
        simpa using this
      subst this
      exact ⟨cc, by simp [List.lookup], fun v hv => by
        cases i with
        | zero => simp at hv
        | succ i => simp at hv⟩⟩
  refine ks_codeAny_call_defAt (binds := ps.zip us) hr.depth (KX _ _ lk) rfl lim (PySem.W.codeRec_of KX hcd) rfl hb S.nocell (fun ⟨n, _⟩ hy => S.par n (List.of_mem_zip hy).1) (fun h₁ hns kp => ?_) S.co S.gen S.kind
  have I : Inv (NdefX.ncx CX P w K mg base N ⟨name, qual, params, rest, scope, [("__class__", cc)], c⟩ f A outer s H E) [] (NdefX.startF N (.ref a :: ws) [none]) H { s with heap := h₁, toks := s.toks + (ps.zip us).length } := NdefX.inv_startN S hr.hd e0 hl r CA hns kp
  obtain ⟨pl, he⟩ := he (NdefX.ncx CX P w K mg base N ⟨name, qual, params, rest, scope, [("__class__", cc)], c⟩ f A outer s H E).env
  refine ks_wpAt_execs_cons ?_
  refine sup_stepG (X := NdefX.ncx CX P w K mg base N ⟨name, qual, params, rest, scope, [("__class__", cc)], c⟩ f A outer s H E) T U I hks (S.frk _ (List.mem_singleton.mpr rfl)) rfl rfl (by show List.lookup ("__class__" : Str) [(("__class__" : Str), cc)] = some cc; simp [List.lookup]) hm lk hp hN hka (by rfl) ea (by show (scope.kind == ScopeKind.module && _) = false; rw [S.kind]; rfl) he fun s' J => ?_
  refine wpAt_of_wpAny (wpAny_mono (ht.run [] s' _ H _ J hq) (fun fl s'' hs => ?_) fun e s' hs => hs)
  have fin : ∀ {σ' : L2.St} {H' : Hp} {v : V} {u : Value}, Inv (NdefX.ncx CX P w K mg base N ⟨name, qual, params, rest, scope, [("__class__", cc)], c⟩ f A outer s H E) [] σ' H' s'' → L2.RelV v u → Q v H' → CE outer P w H s Q u s'' :=
    fun {σ' H' v u} J rv q => ⟨v, H', J.os, J.bare, J.base, J.hok, rv, q⟩
  cases fl with
  | ret u =>
    obtain ⟨v, σ', H', J, rv, q⟩ := hs
    exact fin J rv q
  | next =>
    obtain ⟨σ', H', J, q⟩ := hs
    exact fin (v := V.non) (u := Value.none) J rfl q
  | brk =>
    obtain ⟨_, _, _, q⟩ := hs
    exact False.elim q
  | cont =>
    obtain ⟨_, _, _, q⟩ := hs
    exact False.elim q

def oexBG (tl : List Value) (nb : String) (K : PySem.W.Frag) (C : Addr) : Bool := match K.lookup C with
  | some ⟨.type t, _, .cls ⟨_, _, .ref c :: bm, _, _, true, _, _, _, _, false⟩, ⟨[_, _, _, _, some (.builtin n), _]⟩⟩ => decide (t = "type") && (decide (c = C) && (refsT tl bm && decide (n = nb)))
  | _ => false
def excBG (Bb nb ib : String) (tl : List Value) (P : Program) (K : PySem.W.Frag) (d : ExD) : Bool :=
  supB P K (He.ga K d.x) (He.ma K (He.ga K d.x) "__init__") d.qual && (oexBG tl nb K (He.ga K d.x) && (He.eqO (PySem.W.findIn K (.ref (He.ga K d.x)) "__setattr__") (some (some (.builtin "object.__setattr__"))) && (decide (PySem.W.typeIn K (.ref (He.ga K d.x)) = some (.type "type")) && (PySem.W.keepIn K (.ref (He.ga K d.x)) &&
    (He.eqO (PySem.W.findIn K (.ref (He.ga K d.x)) "__init__") (some (some (.ref (He.ma K (He.ga K d.x) "__init__")))) && (decide (PySem.W.typeIn K (.ref (He.ma K (He.ga K d.x) "__init__")) = some (.type "function")) && (decide (PySem.W.mroIn K (He.ga K d.x) (.ref (He.ga K d.x)) = some true) &&
    (He.eqO (PySem.W.ks_superIn K (He.ga K d.x) (He.ga K d.x) "__init__") (some (some (.builtin ib))) && (decide (PySem.W.subIn K (.ref (He.ga K d.x)) (.type Bb) = some true) && (He.eqO (PySem.W.nsIn K cStatics "thirdparty.any") (some none) && (xfB K (He.ga K d.x) && He.eqO (PySem.W.nsIn K mainGlobals d.x) (some (some (.ref (He.ga K d.x)))))))))))))))
theorem oexBG_ok {tl : List Value} {nb : String} {K : PySem.W.Frag} {C : Addr} (h : oexBG tl nb K C = true) : ∃ nm q N bs bm sn sub ab col dd k0 k1 k2 k3 k5, K.lookup C = some (excClassObj nm q C N bs bm true sn sub ab col dd k0 k1 k2 k3 k5 nb) ∧ refsT tl bm = true := by
  unfold oexBG at h
  split at h
  · rename_i t dd nm bs c bm N q sn sub ab col k0 k1 k2 k3 n k5 e
    obtain ⟨h1, h⟩ := Bool.and_eq_true_iff.mp h
    obtain ⟨h2, h⟩ := Bool.and_eq_true_iff.mp h
    obtain ⟨h3, h4⟩ := Bool.and_eq_true_iff.mp h
    have h1 := of_decide_eq_true h1
    have h2 := of_decide_eq_true h2
    have h4 := of_decide_eq_true h4
    subst h1 h2 h4
    exact ⟨nm, q, N, bs, bm, sn, sub, ab, col, dd, k0, k1, k2, k3, k5, e, h3⟩
  · cases h
/-- what the written part says of such a class at C, its __init__ at f -/
structure ExcTG (Bb nb ib : String) (tl : List Value) (P : Program) (K : PySem.W.Frag) (mg : Str → Option Value) (x qual : Str) (st : Stmt) (C f : Addr) : Prop where
  gC : mg x = some (.ref C)
  T : OexG K C Bb nb ib tl
  xf : XfC K C
  iC : PySem.W.findIn K (.ref C) "__init__" = some (some (.ref f))
  tI : PySem.W.typeIn K (.ref f) = some (.type "function")
  fn : ∃ (oc : Value) (od : Option Addr) (kV doc pm : Value) (an : Option Addr) (c cc : Addr) (ct : Value) (osl : Array (Option Value)),
    K.lookup f = some ⟨oc, od, .func (PySem.W.fnX "__init__" qual (defArgs st) (defBody st) (defScope st) [("__class__", cc)] .none kV doc pm an (.ref c) ct), osl⟩ ∧ PySem.W.codeIn K (.ref c) qual = true ∧ SupIn P K Bb ib C C c cc
theorem excTG_of {Bb nb ib : String} {tl : List Value} (BX : BaseX Bb nb ib tl) {P : Program} {K : PySem.W.Frag} {mg : Str → Option Value} {h : Heap} {d : ExD} (X : K.In h) (G : h.Ns mainGlobals mg) (e : inW K d.x = d.val) (b : excBG Bb nb ib tl P K d = true) (htop : (P.main.scope.names.lookup ("super" : Str)).isSome = false) :
    ExcTG Bb nb ib tl P K mg d.x d.qual d.st (He.ga K d.x) (He.ma K (He.ga K d.x) "__init__") := by
  unfold excBG at b
  obtain ⟨b1, b⟩ := Bool.and_eq_true_iff.mp b
  obtain ⟨b2, b⟩ := Bool.and_eq_true_iff.mp b
  obtain ⟨b3, b⟩ := Bool.and_eq_true_iff.mp b
  obtain ⟨b4, b⟩ := Bool.and_eq_true_iff.mp b
  obtain ⟨b5, b⟩ := Bool.and_eq_true_iff.mp b
  obtain ⟨b6, b⟩ := Bool.and_eq_true_iff.mp b
  obtain ⟨b7, b⟩ := Bool.and_eq_true_iff.mp b
  obtain ⟨b8, b⟩ := Bool.and_eq_true_iff.mp b
  obtain ⟨b9, b⟩ := Bool.and_eq_true_iff.mp b
  obtain ⟨b10, b⟩ := Bool.and_eq_true_iff.mp b
  obtain ⟨b11, b⟩ := Bool.and_eq_true_iff.mp b
  obtain ⟨b12, b13⟩ := Bool.and_eq_true_iff.mp b
  have xf := xfB_ok b12
  refine ⟨PySem.W.mg_of X G (He.eqO_ok b13), ⟨BX, oexBG_ok b2, He.eqO_ok b3, xf.exC, of_decide_eq_true b4, b5⟩, xf, He.eqO_ok b6, of_decide_eq_true b7, ?_⟩
  have oex := oexBG_ok b2
  unfold supB at b1
  unfold inW at e
  have ef : He.fAd K (d.x, some "__init__") = He.ma K (He.ga K d.x) "__init__" := rfl
  rw [ef] at e
  cases q : K.lookup (He.ma K (He.ga K d.x) "__init__") with
  | none =>
    rw [q] at b1
    cases b1
  | some o =>
    obtain ⟨oc, od, dt, osl⟩ := o
    rw [q] at b1 e
    cases dt with
    | func fd =>
      obtain ⟨n1, n2, n3, n4, n5, n6, n7, n8, n9, n10, n11, n12, n13, n14, n15⟩ := fd
      have e2 : (some (n1, n2, n3, n4, n5, n6, n7.map (·.1), n15) : InW) = some (("__init__" : Str), d.qual, defArgs d.st, FuncBody.stmts (defBody d.st), defScope d.st, mainGlobals, [("__class__" : Str)], builtinsNs) := e
      simp only [Option.some.injEq, Prod.mk.injEq] at e2
      obtain ⟨h1, h2, h3, h4, h5, h6, h7, h8⟩ := e2
      subst h1 h2 h3 h4 h5 h6 h8
      dsimp only at b1
      split at b1
      · rename_i c nmc cc
        obtain ⟨c1, c2⟩ := Bool.and_eq_true_iff.mp b1
        obtain ⟨c2, c3⟩ := Bool.and_eq_true_iff.mp c2
        have h7 : [nmc] = [("__class__" : Str)] := h7
        injection h7 with h7 _
        subst h7
        refine ⟨oc, od, n9, n10, n11, n12, c, cc, n14, osl, rfl, c1, ?_, ?_, ?_, of_decide_eq_true b8, He.eqO_ok b9, of_decide_eq_true b10, He.eqO_ok b11, htop⟩
        · split at c2
          · rename_i ccl cdd vs ccs hc
            split at c2
            · rename_i file tf hv
              exact ⟨ccl, cdd, vs, ccs, file, tf, hc, hv, c2⟩
            · cases c2
          · cases c2
        · split at c3
          · rename_i cl cld D csl hc
            have := of_decide_eq_true c3
            subst this
            exact ⟨cl, cld, csl, hc⟩
          · cases c3
        · obtain ⟨nm, q, N, bs, bm, sn, sub, ab, col, dd, k0, k1, k2, k3, k5, hC, hbm⟩ := oex
          exact ⟨_, by unfold PySem.W.clsIn; rw [hC] <;> rfl⟩
      · cases b1
    | _ => cases b1

structure CalG (P : Program) (w : World) (K : PySem.W.Frag) (mg : Str → Option Value) (base : Heap) (k : Nat) (x : Str) (C : Addr) (sp : Sp) : Prop where
  ex : ∃ (Bb nb ib : String) (tl : List Value) (f : Addr) (fd : FuncData) (ps : List Str), OexG K C Bb nb ib tl ∧ PySem.W.findIn K (.ref C) "__init__" = some (some (.ref f)) ∧ PySem.W.typeIn K (.ref f) = some (.type "function") ∧ FnOk P w K mg base L2.CX0 k f fd ps sp ∧ Binds K fd ps [] ∧ mg x = some (.ref C)
theorem pmk_excG {X : Cx} {k j : Nat} {x : Str} {C : Addr} {sp : Sp} {e : Expr} {es : List Expr} {ta : TA} {p pos : Pos} (c : CalG X.prog X.w X.K X.mg X.base k x C sp) (hr : Room j X.A) (hk : k + 1 ≤ j) (hg : Gl X x) (ha : PA X (e :: es) ta)
    (hdb : (x == ("__debug__" : Str)) = false := by decide) (he : starEach (e :: es) X.env = (false, eval e X.env) :: starEach es X.env := by rfl) (hpl : (backTo pos (starEach es X.env)).any (·.1) = false := by rfl) :
    PMk X (.Call (.Name x p) (e :: es) [] pos) (tMkO C sp [] ta) := by
  obtain ⟨Bb, nb, ib, tl, f, fd, ps, T, iC, tI, F, b, m⟩ := c.ex
  exact pmk_oexG T iC tI F (hr.mono hk) b .nil L2.pass0 hg m ha hdb he hpl
end WP

set_option Elab.async false
set_option linter.all false
set_option maxRecDepth 100000
set_option maxHeartbeats 4000000
/-! the law's own frame knows that no text is being made (guards); repr of plain data; errors made as values -/
namespace WP
open PySem PySem.Spec PyProof.Rows L2
/-- as FnOk, for a caller in which no text is being made -/
structure FnG (P : Program) (w : World) (K : PySem.W.Frag) (mg : Str → Option Value) (base : Heap) (CX : CXT) (k : Nat) (f : Addr) (fd : FuncData) (ps : List Str) (sp : Sp) : Prop where
  len : ∀ vs H Q E, sp vs H Q E → vs.length = ps.length
  run : ∀ (A : Around) (outer : List Env) (s : Shared) (H : Hp) (args : Args) (us : List Value) (vs : List V) (Q : VK) (E : XK), A.guards = some [] → Room k A → Env0 P w K mg base A outer s H → BindsTo s fd args (ps.zip us) → Vals vs us → sp vs H Q E →
    codeAny (model P w) A (.call (.ref f) args) (CR CX outer P w H s Q E) s

/-- a def that is entered where no text is being made -/
theorem okG {P : Program} {w : World} {K : PySem.W.Frag} {mg : Str → Option Value} {base : Heap} {x qual : Str} {params : Arguments} {body : List Stmt} {scope : Scope} {dvs : List V} {kws : List (Str × V)} {f : Addr} {fd : FuncData} {CX : CXT} {N ps : List Str} {k : Nat} {sp : Sp}
    (F : FunD K x qual params body scope dvs kws f fd) (S : FnScope N ps scope) (len : ∀ vs H Q E, sp vs H Q E → vs.length = ps.length)
    (hbody : ∀ (cdv : Value) (A : Around) (outer : List Env) (s : Shared) (H : Hp) (vs : List V) (Q : VK) (E : XK), A.guards = some [] → Room k (A.deeper (envOfC qual scope s.heap.objs.size f cdv)) → sp vs H Q E →
      ∃ t, PSs (cxOf CX P w K mg base N qual scope f cdv A outer s H E) body t ∧ t { nx := fun _ H' => Q .non H', rt := Q } (start N vs) H) : FnG P w K mg base CX (k + 1) f fd ps sp := by
  obtain ⟨oc, od, dV, kV, doc, pm, an, cdv, ct, osl, rfl, lk, hcd, -, -⟩ := F.ex
  refine ⟨len, fun A outer s H args us vs Q E gd hr e0 hb r h => ?_⟩
  have here : ∀ b o, base.get? b = some o → s.heap.get? b = some o := fun b o e => (e0.bs b o e).1
  obtain ⟨t, ht, q⟩ := hbody cdv A outer s H vs Q E gd (hr.deeper _) h
  refine Att.call_fn (e0.mod.kin.keeps here) (e0.mod.nolimit.keeps here) lk hcd hr.depth hb ?_ (fun s1 x => ?_) S.co S.gen S.kind
  · refine List.all_eq_true.mpr fun y hy => ?_
    rcases S.par y.1 (List.of_mem_zip (a := y.1) (b := y.2) hy).1 with e | e <;> simp [e]
  · refine wpAny_mono (ht.run [] s1 _ H _ (inv_start S hr.hd e0 (len _ _ _ _ h) r x) q) (fun fl s' e => ?_) fun _ _ z => z
    rcases fl with _ | _ | _ | u
    · exact let ⟨_, H', J, z⟩ := e; ⟨.non, H', J.os, J.bare, J.base, J.hok, rfl, z⟩
    · exact let ⟨_, _, _, z⟩ := e; z.elim
    · exact let ⟨_, _, _, z⟩ := e; z.elim
    · exact let ⟨v, _, H', J, rv, z⟩ := e; ⟨v, H', J.os, J.bare, J.base, J.hok, rv, z⟩
/-- what is tracked when the law is called: its script, unless the program's own part holds it -/
def scriptH (K : PySem.W.Frag) (a : Addr) (o : Obj) (xs : List V) : Hp := fun b => if b = a ∧ K.lookup a = none then some (.frz o (.lst xs)) else none
theorem scriptH_some {K : PySem.W.Frag} {a b : Addr} {o : Obj} {xs : List V} {u : HO} (h : scriptH K a o xs b = some u) : b = a ∧ K.lookup a = none ∧ u = .frz o (.lst xs) := by
  unfold scriptH at h
  split at h
  · rename_i c
    exact ⟨c.1, c.2, (Option.some.inj h).symm⟩
  · cases h
theorem law_callG {P : Program} {w : World} {K : PySem.W.Frag} {mg mb : Str → Option Value} {CX : CXT} {k : Nat} {fa a : Addr} {fd : FuncData} {x : Str} {sp : Sp} {s₁ : Shared} {vs : List Value} {ns : List Int}
    (KX : K.In s₁.heap) (hns : s₁.heap.Ns mainGlobals mg) (hb : s₁.heap.Ns builtinsNs mb) (hbb : ∀ x : Str, x ≠ "__name__" → mb x = bootBuiltins x) (hlim : s₁.heap.NoLimit) (hg : s₁.gens = #[])
    (ha : s₁.heap.get? a = some { cls := .type "list", data := .seq vs.toArray }) (hi : IntsAre vs ns) (hl : ns.length ≤ sizeLine) (hr : Room k callerA)
    (F : ∀ base : Heap, K.In base → base.Ns mainGlobals mg → FnG P w K mg base CX k fa fd [x] sp) (hbind : ∀ (s : Shared) (u : Value), BindsTo s fd ⟨[u], []⟩ [(x, u)])
    (hsp : ∀ H : Hp, Only H → SqL K H a (ns.map V.int) → sp [.ref a] H (fun v _ => v = .bl true) fun _ _ _ => False)
    (hCX : ∀ H e s', CX [] H s₁ (fun _ _ _ => False) e s' → False) :
    codeAny (model P w) callerA (.call (.ref fa) ⟨[.ref a], []⟩) (fun r s' => r = .ok (.ret (.bool true)) ∧ OldK s₁.heap s'.heap ∧ s'.os = s₁.os ∧ AllBare s'.gens) s₁ := by
  have rv := vals_ints hi
  have many : vs.length ≤ sizeLine := by rw [hi.length]; exact hl
  obtain ⟨H, eH⟩ : ∃ H : Hp, H = scriptH K a { cls := .type "list", data := .seq vs.toArray } (ns.map V.int) := ⟨_, rfl⟩
  have tr : ∀ {b : Addr} {u : HO}, H b = some u → b = a ∧ K.lookup a = none ∧ u = .frz { cls := .type "list", data := .seq vs.toArray } (.lst (ns.map V.int)) := fun {b u} e => scriptH_some (by rw [← eH]; exact e)
  have only : Only H := fun b => by
    rcases e : H b with _ | u
    · exact .inl rfl
    · exact .inr ⟨_, _, congrArg some (tr e).2.2⟩
  have sq : SqL K H a (ns.map V.int) := by
    rcases e : K.lookup a with _ | o
    · exact .inl (.inr ⟨{ cls := .type "list", data := .seq vs.toArray }, by rw [eH]; exact if_pos ⟨rfl, e⟩⟩)
    · have same := (KX a o e).symm.trans ha
      cases same
      exact .inr ⟨_, vs.toArray, _, e, rfl, rfl, rfl, by rw [List.size_toArray]; exact many, by simpa using rv⟩
  have hok : HOk P w H s₁.heap := fun b u e => by
    obtain ⟨rfl, -, rfl⟩ := tr e
    exact ⟨ha, by rw [List.length_map]; exact hl, vs, _, rv, ha⟩
  -- what is not the script is not tracked
  have free : ∀ {b : Addr} {o : Obj}, s₁.heap.get? b = some o → (b = a → K.lookup a = none → False) → H b = none := fun {b o} e no => by
    rcases q : H b with _ | u
    · rfl
    · obtain ⟨h1, h2, -⟩ := tr q
      exact (no h1 h2).elim
  have ns' : ∀ {b : Addr} {m : Str → Option Value}, s₁.heap.Ns b m → (hidT s₁.heap H).Ns b m := fun {b m} ⟨o, es, ep, e, d, z⟩ => ⟨o, es, ep, hidT_get e (free e fun h _ => by
    subst h
    obtain rfl := Option.some.inj (ha.symm.trans e)
    cases d), d, z⟩
  have kin : K.In (hidT s₁.heap H) := fun b o e => hidT_get (KX b o e) (free (KX b o e) fun h n => by
    subst h
    rw [n] at e
    cases e)
  obtain ⟨mc, l1, l2⟩ := hlim
  have e0 : Env0 P w K mg (hidT s₁.heap H) callerA [] s₁ H :=
    { frames := rfl, mod := ⟨kin, ns' hns, ⟨mb, ns' hb, hbb⟩, ⟨mc, ns' l1, l2⟩⟩, bs := fun _ _ e => of_hidT e, bsz := Nat.le_of_eq (hidT_size _ _), funs := trivial, frf := fun _ h => (nomatch h), hok := hok, bare := .of_eq hg }
  refine codeAny_mono ((F _ kin (ns' hns)).run callerA [] s₁ H ⟨[.ref a], []⟩ [.ref a] [.ref a] _ _ rfl hr e0 (hbind s₁ (.ref a)) (.cons rfl .nil) (hsp H only sq)) fun res s' e => ?_
  rcases res with er | (_ | _ | _ | u)
  · exact (hCX H er s' e).elim
  · exact e.elim
  · exact e.elim
  · exact e.elim
  · obtain ⟨v, H', os, bare, un, hok', rel, rfl⟩ := e
    obtain rfl : u = Value.bool true := rel
    refine ⟨rfl, OldK.of_keep fun b o q => ?_, os, bare⟩
    rcases t : H b with _ | z
    · exact un.keep b o q t (fun h => nomatch h) (fun h => nomatch h)
    · obtain ⟨rfl, -, rfl⟩ := tr t
      obtain rfl := Option.some.inj (ha.symm.trans q)
      exact (hok' b _ (un.frzs b _ _ t)).1

theorem walk_ofG {l : PySem.W.OpenLaw} {n k : Nat} {q : Program} {loose : List Str} {XP : (Str → Option Value) → Heap → Prop} {YP : World → Heap → Prop} {d : DefRec} {CX : CXT} {x : Str}
    (hn : l.most = some n) (hn2 : n ≤ sizeLine) (hdf : d.params.defaults = []) (hr : Room k callerA)
    (F : ∀ (w : World) (mg : Str → Option Value) (fa : Addr) (h : Heap), YP w h → h.Ns mainGlobals mg → mg d.name = some (.ref fa) →
      ∃ (K : PySem.W.Frag) (fd : FuncData) (sp : Sp), K.In h ∧ (∀ (s : Shared) (u : Value), BindsTo s fd ⟨[u], []⟩ [(x, u)]) ∧
        (∀ (H : Hp) (a : Addr) (ns : List Int), ns.length ≤ n → Only H → SqL K H a (ns.map V.int) → sp [.ref a] H (fun v _ => v = .bl true) fun _ _ _ => False) ∧
        ∀ base : Heap, K.In base → base.Ns mainGlobals mg → FnG l.prog w K mg base CX k fa fd [x] sp)
    (hCX : ∀ (H : Hp) (s : Shared) (e : Value) (s' : Shared), CX [] H s (fun _ _ _ => False) e s' → False) :
    PySem.W.WalkO q loose XP YP l.row.toRowW d [] (fun f vs => PySem.call f vs) :=
  Att.attach_call hn hdf fun w _ s₁ mg _ fa _ _ _ _ a _ ns G Y _ _ _ hm ho hi hlen hg =>
    let ⟨_, _, _, kin, bind, asks, prom⟩ := F w mg fa _ Y G.T.g hm
    law_callG kin G.T.g G.T.b G.T.builtins G.T.nolimit hg ho hi (Nat.le_trans hlen hn2) hr prom bind (fun H o q => asks H a ns hlen o q) fun H e s' => hCX H s₁ e s'

/-! ### repr of plain data -/
def rRepr (K : PySem.W.Frag) : List V → Hp → VK → Prop := fun xs H Q => ∃ (v : V) (d : PyData), xs = [v] ∧ Dp K H v d ∧ d.showable = true ∧ d.hasDict = false ∧ d.depth ≤ 10 ∧ d.shown.length ≤ sizeLine ∧ Q (.str d.shown) H
theorem call_repr {X : Cx} {k : Nat} (K : PySem.W.Frag) (hg : X.A.guards = some []) (hr : Room k X.A) (hK : X.K = K := by rfl) : CallR X (.builtin "repr") (rRepr K) := by
  subst hK
  intro pins s σ H xs us Q I r h
  obtain ⟨v, d, rfl, hd, hs, hnd, hdp, hz, q⟩ := h
  obtain ⟨u, rfl, ru⟩ := vals1 r
  have hu := hr.un
  obtain ⟨as, rd⟩ := Dp.reads I d v u hd ru
  cases hd with
  | non =>
    cases ru
    exact PySem.P.repr_of_none ⟨.str _, H, I.tok _, ⟨_, rfl⟩, q⟩
  | bl b =>
    cases ru
    exact PySem.P.repr_of_bool ⟨.str _, H, I.tok _, ⟨_, rfl⟩, q⟩
  | int i =>
    obtain ⟨t, rfl⟩ := ru
    exact PySem.P.repr_of_int (by simpa [PyData.showable] using hs) ⟨.str _, H, I.tok _, ⟨_, rfl⟩, q⟩
  | str x =>
    obtain ⟨t, rfl⟩ := ru
    exact PySem.P.repr_of_str ⟨.str _, H, I.tok _, ⟨_, rfl⟩, q⟩ hz
  | lst s r =>
    cases ru
    exact repr_of_reads' rd hs (fun z => by rw [hnd] at z; cases z) hg (by omega) (fun _ _ e => e) (fun h' u tk hk => ⟨.str _, H, I.kept (t' := tk) hk, ⟨_, rfl⟩, q⟩) hz
  | tup s r =>
    cases ru
    exact repr_of_reads' rd hs (fun z => by rw [hnd] at z; cases z) hg (by omega) (fun _ _ e => e) (fun h' u tk hk => ⟨.str _, H, I.kept (t' := tk) hk, ⟨_, rfl⟩, q⟩) hz
/-! ### C(e, ..) as a value -/
def tMkV (C : Addr) (sp : Sp) (ta : TA) : TE := fun σ H Q => ta σ H fun vs H1 => vs.length ≤ 1000 ∧ ∀ a, H1 a = none → sp (.ref a :: vs) (upd H1 a (exo a C none)) (fun v H2 => v = .non ∧ Q (.ref a) H2) (fun _ _ _ => False)

theorem mkV_core {X : Cx} {k : Nat} {C : Addr} {sp : Sp} {pins : List (Addr × Obj)} {σ : L2.St} {H1 : Hp} {s1 : Shared} {us : List Value} {vs : List V} {Q : VK} {Bb nb ib : String} {tl : List Value} {fI : Addr} {fd : FuncData} {ps : List Str}
    (T : OexG X.K C Bb nb ib tl) (iC : PySem.W.findIn X.K (.ref C) "__init__" = some (some (.ref fI))) (tI : PySem.W.typeIn X.K (.ref fI) = some (.type "function")) (F1 : FnOk X.prog X.w X.K X.mg X.base L2.CX0 k fI fd ps sp) (hb : Binds X.K fd ps []) (hr : Room (k + 1) X.A)
    (I1 : Inv X pins σ H1 s1) (r1 : Vals vs us) (hz : vs.length ≤ 1000) (q1 : ∀ a, H1 a = none → sp (.ref a :: vs) (upd H1 a (exo a C none)) (fun v H2 => v = .non ∧ Q (.ref a) H2) (fun _ _ _ => False)) :
    wpAny (model X.prog X.w) X.A (call (.ref C) us) (EP X pins σ Q) X.xe s1 :=
  err_call (G := fun a H2 => Q (.ref a) H2) T iC tI F1 hr hb .nil L2.pass0 I1 r1 hz (fun a n => by rw [List.append_nil]; exact q1 a n)
    fun a h1 s' H2 _ _ J o2 b2 un ok2 z => ⟨.ref a, H2, J.call' (ch := []) o2 un ok2 b2 (fun _ h => nomatch h), rfl, z⟩

theorem pe_mkV {X : Cx} {k j : Nat} {x : Str} {C : Addr} {sp : Sp} {e : Expr} {es : List Expr} {ta : TA} {p pos : Pos} (c : CalG X.prog X.w X.K X.mg X.base k x C sp) (hr : Room j X.A) (hk : k + 1 ≤ j) (hg : Gl X x) (ha : PA X (e :: es) ta)
    (hdb : (x == ("__debug__" : Str)) = false := by decide) (he : starEach (e :: es) X.env = (false, eval e X.env) :: starEach es X.env := by rfl) (hpl : (backTo pos (starEach es X.env)).any (·.1) = false := by rfl) :
    PE X (.Call (.Name x p) (e :: es) [] pos) (tMkV C sp ta) := by
  obtain ⟨Bb, nb, ib, tl, f, fd, ps, T, iC, tI, F, b, m⟩ := c.ex
  refine ⟨fun pins s σ H Q I h => ?_⟩
  refine wpAny_Call_Name_kw (ld_glob I hg m ?_ hdb)
  refine PySem.W.callWith_K (h₀ := X.base) I.ok.mod.kin T.kC (thn (ha.run pos pins s σ H _ I h) fun us s1 ⟨vs, H1, I1, r1, hz, q1⟩ => ⟨I1.kIn, ?_⟩) he hpl
  exact mkV_core T iC tI F b (hr.mono hk) I1 r1 hz q1
theorem pe_mkV0 {X : Cx} {k j : Nat} {x : Str} {C : Addr} {sp : Sp} {p pos : Pos} (c : CalG X.prog X.w X.K X.mg X.base k x C sp) (hr : Room j X.A) (hk : k + 1 ≤ j) (hg : Gl X x)
    (hdb : (x == ("__debug__" : Str)) = false := by decide) : PE X (.Call (.Name x p) [] [] pos) (tMkV C sp tNil) := by
  obtain ⟨Bb, nb, ib, tl, f, fd, ps, T, iC, tI, F, b, m⟩ := c.ex
  refine ⟨fun pins s σ H Q I h => ?_⟩
  refine wpAny_Call_Name_kw (ld_glob I hg m ?_ hdb)
  exact PySem.W.callWith_K0 I.kIn T.kC (mkV_core T iC tI F b (hr.mono hk) I .nil h.1 h.2)
theorem r_mkV {C : Addr} {sp : Sp} {ta : TA} {σ : L2.St} {H : Hp} {Q : VK} (q : ta σ H fun vs H1 => vs.length ≤ 1000 ∧ ∀ a, H1 a = none → sp (.ref a :: vs) (upd H1 a (exo a C none)) (fun v H2 => v = .non ∧ Q (.ref a) H2) (fun _ _ _ => False)) : tMkV C sp ta σ H Q := q
/-! ### its fields, its classes -/
section
variable {X : Cx} {pins : List (Addr × Obj)} {σ : L2.St} {H : Hp} {s : Shared}
theorem exo_inst {a C d : Addr} {fs : List (Str × V)} (I : Inv X pins σ H s) (ha : H a = some (exo a C (some d))) (hd : H d = some (exd d fs)) : ∃ (oe od : Obj) (mA : Str → Option Value), PySem.W.InstAt s.heap a oe C (some od) ∧ (∀ f, PySem.W.lookIn f od = some (mA f)) ∧ ∀ f, RelO (fs.lookup f) (mA f) := by
  obtain ⟨t1, h1⟩ := exo_at I.hok ha
  obtain ⟨mA, hns, hr⟩ := exd_at I.hok hd
  obtain ⟨od, ho, hl⟩ := lookIn_ns hns
  exact ⟨_, od, mA, ⟨h1, rfl, rfl, ho⟩, hl, hr⟩
/-- an error at a, of the class C, perhaps with fields -/
def ErrAt (H : Hp) (a C : Addr) : Prop := H a = some (exo a C none) ∨ ∃ (d : Addr) (fs : List (Str × V)), H a = some (exo a C (some d)) ∧ H d = some (exd d fs)
theorem ErrAt.mono {H' : Hp} {a C : Addr} (e : Evl.Ex H H') (h : ErrAt H a C) : ErrAt H' a C := by
  rcases h with h | ⟨d, fs, h1, h2⟩
  · exact .inl (e _ _ h)
  · exact .inr ⟨d, fs, e _ _ h1, e _ _ h2⟩
theorem err_inst {a C : Addr} (I : Inv X pins σ H s) (h : ErrAt H a C) : ∃ (oe : Obj) (od : Option Obj), PySem.W.InstAt s.heap a oe C od := by
  rcases h with h | ⟨d, fs, h1, h2⟩
  · obtain ⟨t1, h1⟩ := exo_at I.hok h
    exact ⟨_, none, ⟨h1, rfl, rfl, trivial⟩⟩
  · obtain ⟨oe, od, mA, J, _, _⟩ := exo_inst I h1 h2
    exact ⟨oe, some od, J⟩
def tXo (K : PySem.W.Frag) (n : Str) (te : TE) : TE := fun σ H Q => te σ H fun x H1 => ∃ (a C d : Addr) (fs : List (Str × V)) (v : V), x = .ref a ∧ H1 a = some (exo a C (some d)) ∧ H1 d = some (exd d fs) ∧ XfC K C ∧ PySem.W.findIn K (.ref C) n = some none ∧ fs.lookup n = some v ∧ Q v H1
theorem pe_xo (K : PySem.W.Frag) {e : Expr} {te : TE} {pos : Pos} {n : Str} (he : PE X e te) (hb : attributeBase e n X.env (eval e X.env) = eval e X.env := by rfl) (hK : X.K = K := by rfl) : PE X (.Attribute e n pos) (tXo K n te) := by
  subst hK
  refine ⟨fun pins s σ H Q I h => ?_⟩
  refine attr_of hb (thn (he.run pins s σ H _ I h) fun u s1 hh => ?_)
  obtain ⟨x, H1, I1, rx, a, C, d, fs, v, ex, ha, hd, T, hno, l, q⟩ := hh
  subst ex
  obtain rfl : u = Value.ref a := rx
  obtain ⟨oe, od, mA, J, hl, hr⟩ := exo_inst I1 ha hd
  obtain ⟨u, hu, ru⟩ := RelO.some_of (v := v) (o := mA n) (by rw [← l]; exact hr n)
  exact HandSPX.exc_get I1.kIn J T.ga T.gg T.exC (PySem.W.findObj_own T.hdC hno rfl (by rw [hl, hu])) (handed_of ru) ⟨v, H1, I1.tok _, ru, q⟩
theorem r_xo {K : PySem.W.Frag} {n : Str} {te : TE} {σ : L2.St} {H : Hp} {Q : VK} (q : te σ H fun x H1 => ∃ (a C d : Addr) (fs : List (Str × V)) (v : V), x = .ref a ∧ H1 a = some (exo a C (some d)) ∧ H1 d = some (exd d fs) ∧ XfC K C ∧ PySem.W.findIn K (.ref C) n = some none ∧ fs.lookup n = some v ∧ Q v H1) : tXo K n te σ H Q := q
end
def rIsO (K : PySem.W.Frag) : List V → Hp → VK → Prop := fun xs H Q => ∃ (a D : Addr) (c : V) (u : Value) (b : Bool), xs = [.ref a, c] ∧ ErrAt H a D ∧ ExcC K D ∧ ClsV c u ∧ PySem.W.kitOne K (.ref D) u = some b ∧ Q (.bl b) H
theorem call_isO {X : Cx} (K : PySem.W.Frag) (hK : X.K = K := by rfl) : CallR X (.builtin "isinstance") (rIsO K) := by
  subst hK
  intro pins s σ H xs us Q I r h
  obtain ⟨a, D, c, u, b, rfl, ha, C, k, e, q⟩ := h
  obtain ⟨u1, u2, rfl, r1, r2⟩ := vals2 r
  cases r1
  have e2 := k.eq r2
  subst e2
  obtain ⟨oe, od, J⟩ := err_inst I ha
  exact PySem.W.kia_one (kit_err C) I.kIn J e (fun z => nomatch z) fun tk => ⟨.bl b, H, I.tok tk, rfl, q⟩
end WP

set_option Elab.async false
set_option linter.all false
set_option maxRecDepth 100000
set_option maxHeartbeats 4000000
/-! a second field of an own error over any base; data whose text is short -/
namespace WP
open PySem PySem.Spec PyProof.Rows L2

def tOst2 (K : PySem.W.Frag) (Bb nb ib : String) (tl : List Value) (f : Str) (to te : TE) : TS := fun D σ H => te σ H fun y H1 => to σ H1 fun x H2 => ∃ (a C dx : Addr) (fs : List (Str × V)), x = .ref a ∧ OexG K C Bb nb ib tl ∧ PySem.W.findIn K (.ref C) f = some none ∧
  H2 a = some (exo a C (some dx)) ∧ H2 dx = some (exd dx fs) ∧ fs.length ≤ 900 ∧ D.nx σ (upd H2 dx (exd dx ((f, y) :: fs)))
theorem ps_ost2 {X : Cx} {o e : Expr} {to te : TE} {f : Str} {p' pos : Pos} {Bb nb ib : String} {tl : List Value} (ho : PE X o to) (he : PE X e te) (hs : swapsWith e (some (.Attribute o f p')) pos.line X.env = pure false := by rfl) : PS X (.Assign [.Attribute o f p'] e pos) (tOst2 X.K Bb nb ib tl f to te) := by
  refine ⟨fun pins s σ H D I h => ?_⟩
  refine plainObj_wpAny_Assign_Attribute (thn (he.run pins s σ H _ I h) fun v s1 ⟨y, H1, I1, r1, q1⟩ => thn (ho.run pins s1 σ H1 _ I1 q1) fun u s2 ⟨x, H2, I2, r2, a, C, dx, fs, ex, T, hno, ea, ed, hl, q⟩ => ?_) hs
  subst ex
  obtain rfl : u = Value.ref a := r2
  exact ost_oldG T I2 ea ed hl hno r1 fun s' J => ⟨σ, _, J, q⟩
/-! ### data whose text is short -/
def cap : Nat → Nat
  | 0 => 2000
  | n + 1 => 4 * cap n + 20
theorem cap_up : ∀ n : Nat, cap n ≤ cap (n + 1) := fun n => by show cap n ≤ 4 * cap n + 20; omega
theorem cap_le {m n : Nat} (h : m ≤ n) : cap m ≤ cap n := by
  induction h with
  | refl => exact Nat.le_refl _
  | step _ ih => exact Nat.le_trans ih (cap_up _)
/-- plain data, at most so deep, with a text that is not long -/
def Dw (K : PySem.W.Frag) (H : Hp) (m : Nat) (v : V) : Prop := ∃ d, Dp K H v d ∧ fit d = true ∧ d.depth ≤ m ∧ d.showable = true ∧ d.hasDict = false ∧ d.shown.length ≤ cap m
theorem Dw.mono {K : PySem.W.Frag} {H H' : Hp} {m n : Nat} {v : V} (e : Evl.Ex H H') (h : m ≤ n) (d : Dw K H m v) : Dw K H' n v := by
  obtain ⟨d, h1, h2, h3, h4, h5, h6⟩ := d
  exact ⟨d, Dp.mono e h1, h2, Nat.le_trans h3 h, h4, h5, Nat.le_trans h6 (cap_le h)⟩
theorem cap0 (m : Nat) : 2000 ≤ cap m := cap_le (m := 0) (Nat.zero_le m)
section
variable {K : PySem.W.Frag} {H : Hp} {m : Nat}
theorem dw_non : Dw K H m .non := ⟨_, .non, by rw [fit], by simp [PyData.depth], by simp [PyData.showable], by simp [PyData.hasDict], by have := cap0 m; rw [PyData.shown]; show 4 ≤ _; omega⟩
theorem dw_bl {b : Bool} : Dw K H m (.bl b) := ⟨_, .bl b, by rw [fit], by simp [PyData.depth], by simp [PyData.showable], by simp [PyData.hasDict], by have := cap0 m; rw [PyData.shown]; exact Nat.le_trans (by cases b <;> decide +kernel : _ ≤ 5) (by omega)⟩
theorem dw_int {i : Int} (h : i.natAbs < 2 ^ 200) : Dw K H m (.int i) := by
  have hl : i.natAbs.log2 < 200 := by
    by_cases h0 : i.natAbs = 0
    · rw [h0]; decide
    · exact (Nat.log2_lt h0).mpr h
  refine ⟨_, .int i, by rw [fit], by simp [PyData.depth], by rw [PyData.showable]; exact decide_eq_true (by omega), by simp [PyData.hasDict], ?_⟩
  have := cap0 m
  have e := int_text_length_le (a := i) (k := 200) (by decide) hl
  rw [PyData.shown]
  show (Str.ofString (toString i)).length ≤ _
  rw [PySem.ofString_length]
  omega
theorem dw_str {z : Str} (h1 : z.length ≤ 100) (h2 : PyData.strOk z = true) : Dw K H m (.str z) := by
  refine ⟨_, .str z, by rw [fit, h2, Bool.and_true]; exact decide_eq_true (by omega), by simp [PyData.depth], by simp [PyData.showable], by simp [PyData.hasDict], ?_⟩
  have := cap0 m
  have e := PySem.StrLaws.reprText_len z (fun c hc => by
    have := Array.all_eq_true'.mp h2 c (Array.mem_toList_iff.mp hc)
    have := of_decide_eq_true this
    omega)
  rw [PyData.shown]
  omega
theorem dwAll : ∀ {xs : List V}, (∀ v ∈ xs, Dw K H m v) → ∃ ds, DpAll K H xs ds ∧ fitAll ds = true ∧ PyData.depthAll ds ≤ m ∧ PyData.showableAll ds = true ∧ PyData.hasDictAll ds = false ∧ ((PyData.shownAll ds).map (·.length)).sum ≤ xs.length * cap m ∧ (PyData.shownAll ds).length = xs.length
  | [], _ => ⟨[], .nil, by rw [fitAll], by simp [PyData.depthAll], by simp [PyData.showableAll], by simp [PyData.hasDictAll], by simp [PyData.shownAll], by simp [PyData.shownAll]⟩
  | v :: r, h => by
    obtain ⟨d, h1, h2, h3, h4, h5, h6⟩ := h v (List.mem_cons_self ..)
    obtain ⟨ds, k1, k2, k3, k4, k5, k6, k7⟩ := dwAll (xs := r) fun u hu => h u (List.mem_cons_of_mem _ hu)
    refine ⟨d :: ds, .cons h1 k1, by rw [fitAll, h2, k2]; rfl, ?_, by rw [PyData.showableAll, h4, k4]; rfl, by rw [PyData.hasDictAll, h5, k5]; rfl, ?_, by rw [PyData.shownAll, List.length_cons, List.length_cons, k7]⟩
    · rw [PyData.depthAll]
      omega
    · rw [PyData.shownAll, List.map_cons, List.sum_cons, List.length_cons, Nat.succ_mul]
      omega
theorem tupleText_len (ts : List Str) : (tupleText ts).length ≤ (ts.map (·.length)).sum + 2 * ts.length + 3 := by
  have e := listText_len_le ts
  rw [listText_eq_join] at e
  unfold tupleText
  rw [strLen_append, strLen_append] at e ⊢
  have e1 : (("[" : String) : Str).length = 1 := rfl
  have e2 : (("]" : String) : Str).length = 1 := rfl
  have e3 : (("(" : String) : Str).length = 1 := rfl
  rw [e1, e2] at e
  rw [e3]
  cases ts with
  | nil => simp [Str.join] ; decide
  | cons x r => cases r with
    | nil =>
      have : (Str.join ", " [x]) = x := by first | rfl | simp [Str.join]
      rw [this]
      simp
      first | omega | (show 1 + x.length + 2 ≤ _; omega)
    | cons y r =>
      have : ((x :: y :: r).length == 1) = false := by simp
      rw [this]
      have e4 : ((if false = true then ",)" else ")" : String) : Str).length = 1 := rfl
      first
        | (rw [e4]; omega)
        | (simp only [Bool.false_eq_true, if_false]; show _ + 1 ≤ _; omega)
theorem dw_lst {a : Addr} {xs : List V} (s : SqL K H a xs) (h : ∀ v ∈ xs, Dw K H m v) (hl : xs.length ≤ 4) : Dw K H (m + 1) (.ref a) := by
  obtain ⟨ds, k1, k2, k3, k4, k5, k6, k7⟩ := dwAll h
  refine ⟨.list ds, .lst s k1, by rw [fit, k2, Bool.and_true, ← DpAll.length k1]; exact decide_eq_true (by omega), by rw [PyData.depth]; omega, by rw [PyData.showable]; exact k4, by rw [PyData.hasDict]; exact k5, ?_⟩
  have e := listText_len_le (PyData.shownAll ds)
  have e2 : xs.length * cap m ≤ 4 * cap m := Nat.mul_le_mul_right _ hl
  rw [PyData.shown]
  show _ ≤ 4 * cap m + 20
  omega
theorem dw_tup {a : Addr} {xs : List V} (s : SqT K H a xs) (h : ∀ v ∈ xs, Dw K H m v) (hl : xs.length ≤ 4) : Dw K H (m + 1) (.ref a) := by
  obtain ⟨ds, k1, k2, k3, k4, k5, k6, k7⟩ := dwAll h
  refine ⟨.tuple ds, .tup s k1, by rw [fit, k2, Bool.and_true, ← DpAll.length k1]; exact decide_eq_true (by omega), by rw [PyData.depth]; omega, by rw [PyData.showable]; exact k4, by rw [PyData.hasDict]; exact k5, ?_⟩
  have e := tupleText_len (PyData.shownAll ds)
  have e2 : xs.length * cap m ≤ 4 * cap m := Nat.mul_le_mul_right _ hl
  rw [PyData.shown]
  show _ ≤ 4 * cap m + 20
  omega
end
end WP

set_option Elab.async false
set_option linter.all false
set_option maxRecDepth 100000
set_option maxHeartbeats 1000000
/-! the errors of the package as values: their promises, their tables of classes; a comprehension over a range that computes a function -/
namespace WP
open PySem PySem.Spec PyProof.Rows L2
theorem lc_fun {m : Nat} {H2 : Hp} {L : Addr} {te : TE} {j : Nat} {vs : List Nat} {σ : L2.St} {Qd : Hp → Prop} (hL : H2 L = none) (hm : m ≤ 1000000) (f : Nat → V)
    (hw : ∀ x, wipe ((wipe σ vs).set j (some x)) vs = wipe σ vs)
    (hel : ∀ i H', i < m → Evl.Ex H2 H' → ∀ Q' : VK, (∀ H'', Evl.Ex H' H'' → Q' (f i) H'') → te ((wipe σ vs).set j (some (.int (0 + (i : Nat))))) H' Q')
    (q : ∀ H', Evl.Ex H2 H' → H' L = some (.lst ((List.range m).map f)) → Qd H') :
    ∃ W : Nat → Nat → Hp → Prop, (∃ m, W 0 m (upd H2 L (.lst []))) ∧ ∀ i k H, W i k H →
      ((Itr 0 m).stop i H ∧ Qd H) ∨ ((Itr 0 m).go i H ∧ ∃ Nx : Hp → Prop, (∀ H', Nx H' → ∃ m', m' < k ∧ W (i + 1) m' H') ∧ ∀ x H', (Itr 0 m).yld i H x H' → gName j x (wipe σ vs) H' fun σ2 H2 => wipe σ2 vs = wipe σ vs ∧ tYes σ2 H2 fun b H3 =>
        if b = true then te σ2 H3 fun y H4 => ∃ acc, H4 L = some (.lst acc) ∧ acc.length < sizeLine ∧ Nx (upd H4 L (.lst (acc ++ [y]))) else Nx H3) := by
  refine lc_range (lo := 0) (n := m) (fun i H' => H' L = some (.lst ((List.range i).map f)) ∧ Evl.Ex H2 H') ?_ ?_ ?_
  · exact ⟨upd_same, Evl.Ex.new hL⟩
  · rintro i H' hi ⟨h1, e1⟩
    refine ⟨hw _, r_yes (iteT ?_)⟩
    refine hel i H' hi e1 _ fun H3 e2 => ?_
    refine ⟨_, e2 _ _ h1, by rw [List.length_map, List.length_range, sizeLine_eq]; omega, ?_, Evl.Ex.mut (e1.trans e2) hL⟩
    rw [upd_same, List.range_succ, List.map_append]
    rfl
  · rintro H' ⟨h1, e1⟩
    exact q H' e1 h1
theorem fnokG_of {P : Program} {w : World} {K : PySem.W.Frag} {mg : Str → Option Value} {base : Heap} {x : Str} {st : Stmt} {f : Addr} {fd : FuncData} {N ps : List Str} {k : Nat} {sp : Sp} (F : FunD K x x (defArgs st) (defBody st) (defScope st) [] [] f fd) (S : FnScope N ps (defScope st)) (len : ∀ vs H Q E, sp vs H Q E → vs.length = ps.length)
    (hbody : ∀ (cdv : Value) (A : Around) (outer : List Env) (s : Shared) (H : Hp) (vs : List V) (Q : VK) (E : XK), A.guards = some [] → Room k (A.deeper (envOfC x (defScope st) s.heap.objs.size f cdv)) → sp vs H Q E →
      ∃ t, PSs (cxOf L2.CX0 P w K mg base N x (defScope st) f cdv A outer s H E).nox (defBody st) t ∧ t { nx := fun _ H' => Q .non H', rt := Q } (start N vs) H) : FnG P w K mg base L2.CX0 (k + 1) f fd ps sp := by
  refine okG F S len fun cdv A outer s H vs Q E hg hr hsp => ?_
  obtain ⟨t, h, q⟩ := hbody cdv A outer s H vs Q E hg hr hsp
  exact ⟨t, h.nox, q⟩
/-! ### the promises of the __init__s -/
def spInit0 (K : PySem.W.Frag) (C : Addr) : Sp := fun vs H Q _ => ∃ a : Addr, vs = [.ref a] ∧ H a = some (exo a C none) ∧ Q .non H
def spInit2 (f g : Str) (K : PySem.W.Frag) (C : Addr) : Sp := fun vs H Q _ => ∃ (a : Addr) (v u : V), vs = [.ref a, v, u] ∧ H a = some (exo a C none) ∧ ∀ dx, H dx = none → dx ≠ a → Q .non (upd (upd (upd H dx (exd dx [(f, v)])) a (exo a C (some dx))) dx (exd dx [(g, u), (f, v)]))
/-- an error at a of the class C with these fields -/
def ErrF (H : Hp) (a C : Addr) (fs : List (Str × V)) : Prop := ∃ d : Addr, H a = some (exo a C (some d)) ∧ H d = some (exd d fs)
theorem ErrF.mono {H H' : Hp} {a C : Addr} {fs : List (Str × V)} (e : Evl.Ex H H') (h : ErrF H a C fs) : ErrF H' a C fs := by
  obtain ⟨d, h1, h2⟩ := h
  exact ⟨d, e _ _ h1, e _ _ h2⟩
theorem ErrF.at {H : Hp} {a C : Addr} {fs : List (Str × V)} (h : ErrF H a C fs) : ErrAt H a C := by
  obtain ⟨d, h1, h2⟩ := h
  exact .inr ⟨d, fs, h1, h2⟩
theorem mkv0 {K : PySem.W.Frag} {C : Addr} {H1 : Hp} {Q : Addr → Hp → Prop} (q : ∀ a H2, ErrAt H2 a C → Evl.Ex H1 H2 → Q a H2) :
    ([] : List V).length ≤ 1000 ∧ ∀ a, H1 a = none → spInit0 K C (.ref a :: []) (upd H1 a (exo a C none)) (fun v H2 => v = .non ∧ Q a H2) (fun _ _ _ => False) :=
  ⟨by simp, fun a ha => ⟨a, rfl, upd_same, rfl, q a _ (.inl upd_same) (Evl.Ex.new ha)⟩⟩
theorem mkv1 {K : PySem.W.Frag} {C : Addr} {f : Str} {v : V} {H1 : Hp} {Q : Addr → Hp → Prop} (q : ∀ a H2, ErrF H2 a C [(f, v)] → Evl.Ex H1 H2 → Q a H2) :
    [v].length ≤ 1000 ∧ ∀ a, H1 a = none → spInit1 f K C (.ref a :: [v]) (upd H1 a (exo a C none)) (fun v H2 => v = .non ∧ Q a H2) (fun _ _ _ => False) := by
  refine ⟨by simp, fun a ha => ⟨a, v, rfl, upd_same, fun dx hdx hne => ⟨rfl, q a _ ⟨dx, upd_same, by rw [upd_ne hne, upd_same]⟩ fun b o hb => ?_⟩⟩⟩
  rw [upd_ne hne] at hdx
  rw [upd_ne (ne_of_none hb ha), upd_ne (ne_of_none hb hdx), upd_ne (ne_of_none hb ha)]
  exact hb
theorem mkv2 {K : PySem.W.Frag} {C : Addr} {f g : Str} {v u : V} {H1 : Hp} {Q : Addr → Hp → Prop} (q : ∀ a H2, ErrF H2 a C [(g, u), (f, v)] → Evl.Ex H1 H2 → Q a H2) :
    [v, u].length ≤ 1000 ∧ ∀ a, H1 a = none → spInit2 f g K C (.ref a :: [v, u]) (upd H1 a (exo a C none)) (fun v H2 => v = .non ∧ Q a H2) (fun _ _ _ => False) := by
  refine ⟨by simp, fun a ha => ⟨a, v, u, rfl, upd_same, fun dx hdx hne => ⟨rfl, q a _ ⟨dx, by rw [upd_ne hne.symm, upd_same], upd_same⟩ fun b o hb => ?_⟩⟩⟩
  rw [upd_ne hne] at hdx
  rw [upd_ne (ne_of_none hb hdx), upd_ne (ne_of_none hb ha), upd_ne (ne_of_none hb hdx), upd_ne (ne_of_none hb ha)]
  exact hb
/-! ### the tables -/
def names14 : List Str := ["BadFamily", "BadCall", "BadTest", "BadPart", "BadSuite", "OtherFamily", "BadDemand", "BadDeed", "NoClass", "NoCall", "NoTest", "NoCheck", "NothingToUndo", "Raised"]
def lowV (i : Nat) : Bool := decide (i < 8)
def midL (i : Nat) : Bool := decide (8 ≤ i) && decide (i < 13)
def topR (i : Nat) : Bool := decide (i = 13)
def bases7 (i : Nat) : List Bool := [lowV i, lowV i, midL i, topR i, false, false, false]
abbrev nm14 (i : Nat) : Str := names14.getD i ""
def bs7 (K : PySem.W.Frag) : List Value := [.ref (He.ga K "WhatpassesError"), .type "ValueError", .type "LookupError", .type "RuntimeError", .type "KeyError", .type "IndexError", .type "NotImplementedError"]
def errB (K : PySem.W.Frag) (D : Addr) : Bool := decide (PySem.W.findIn K (.ref D) "__class__" = some (some (.builtin "object.__class__"))) && (decide (PySem.W.specialIn K (.builtin "object.__class__") "__get__" = some (some (.builtin "getset_descriptor.__get__"))) && (decide (PySem.W.takesIn K (.builtin "object.__class__") = some true) && decide (PySem.W.mroIn K D (.type "object") = some true)))
theorem errB_ok {K : PySem.W.Frag} {D : Addr} (T : XfC K D) (h : errB K D = true) : ExcC K D := by
  unfold errB at h
  obtain ⟨h1, h⟩ := Bool.and_eq_true_iff.mp h
  obtain ⟨h2, h⟩ := Bool.and_eq_true_iff.mp h
  obtain ⟨h3, h4⟩ := Bool.and_eq_true_iff.mp h
  exact ⟨T.ga, T.gg, T.exC, T.hdC, of_decide_eq_true h1, of_decide_eq_true h2, of_decide_eq_true h3, of_decide_eq_true h4⟩
def tabB (K : PySem.W.Frag) : Bool := (List.range 14).all fun i => xfB K (He.ga K (nm14 i)) && (errB K (He.ga K (nm14 i)) && (((List.range 14).all fun j => decide (PySem.W.kitOne K (.ref (He.ga K (nm14 i))) (.ref (He.ga K (nm14 j))) = some (decide (j = i)))) &&
  ((List.range 7).all fun j => decide (PySem.W.kitOne K (.ref (He.ga K (nm14 i))) ((bs7 K).getD j .none) = some ((bases7 i).getD j false)))))
/-- the tables hold -/
structure Tab (K : PySem.W.Frag) : Prop where
  xf : ∀ i, i < 14 → XfC K (He.ga K (nm14 i))
  ec : ∀ i, i < 14 → ExcC K (He.ga K (nm14 i))
  own : ∀ i j, i < 14 → j < 14 → PySem.W.kitOne K (.ref (He.ga K (nm14 i))) (.ref (He.ga K (nm14 j))) = some (decide (j = i))
  bas : ∀ i j, i < 14 → j < 7 → PySem.W.kitOne K (.ref (He.ga K (nm14 i))) ((bs7 K).getD j .none) = some ((bases7 i).getD j false)
theorem tab_of {K : PySem.W.Frag} (h : tabB K = true) : Tab K := by
  have key : ∀ i, i < 14 → XfC K (He.ga K (nm14 i)) ∧ ExcC K (He.ga K (nm14 i)) ∧ (∀ j, j < 14 → PySem.W.kitOne K (.ref (He.ga K (nm14 i))) (.ref (He.ga K (nm14 j))) = some (decide (j = i))) ∧ ∀ j, j < 7 → PySem.W.kitOne K (.ref (He.ga K (nm14 i))) ((bs7 K).getD j .none) = some ((bases7 i).getD j false) := fun i hi => by
    have q := List.all_eq_true.mp h i (List.mem_range.mpr hi)
    obtain ⟨q1, q⟩ := Bool.and_eq_true_iff.mp q
    obtain ⟨q2, q⟩ := Bool.and_eq_true_iff.mp q
    obtain ⟨q3, q4⟩ := Bool.and_eq_true_iff.mp q
    have xf := xfB_ok q1
    exact ⟨xf, errB_ok xf q2, fun j hj => of_decide_eq_true (List.all_eq_true.mp q3 j (List.mem_range.mpr hj)), fun j hj => of_decide_eq_true (List.all_eq_true.mp q4 j (List.mem_range.mpr hj))⟩
  exact ⟨fun i hi => (key i hi).1, fun i hi => (key i hi).2.1, fun i j hi hj => (key i hi).2.2.1 j hj, fun i j hi hj => (key i hi).2.2.2 j hj⟩
/-- a def of one error that tells bools of it, in a list -/
def spTell (K : PySem.W.Frag) (f : Nat → List Bool) : Sp := fun vs H Q _ => ∃ (a : Addr) (i : Nat), vs = [.ref a] ∧ i < 14 ∧ ErrAt H a (He.ga K (nm14 i)) ∧ ∀ L H', Evl.Ex H H' → H' L = some (.lst ((f i).map V.bl)) → Q (.ref L) H'
theorem dp_bools {K : PySem.W.Frag} {H : Hp} : ∀ bs : List Bool, DpAll K H (bs.map V.bl) (bs.map PyData.bool)
  | [] => .nil
  | b :: r => .cons (.bl b) (dp_bools r)
theorem shaped_bools : ∀ bs : List Bool, fitAll (bs.map PyData.bool) = true
  | [] => by rw [List.map_nil, fitAll]
  | b :: r => by rw [List.map_cons, fitAll, shaped_bools r, fit]; rfl
end WP

set_option Elab.async false
set_option linter.all false
set_option maxRecDepth 100000
set_option maxHeartbeats 1000000
/-! a generator method, by its body; list(o.m(e, ..)) -/
namespace WP
open PySem PySem.Spec PyProof.Rows L2
structure CalGn (P : Program) (w : World) (K : PySem.W.Frag) (mg : Str → Option Value) (base : Heap) (k : Nat) (C : Addr) (m : Str) (sp : SpG) : Prop where
  ex : ∃ (f : Addr) (fd : FuncData) (ps : List Str), GFn P w K mg base k f fd ps sp ∧ Meth K C m f ∧ Binds K fd ps []
theorem calGn_of {P : Program} {w : World} {K : PySem.W.Frag} {mg : Str → Option Value} {base : Heap} {C : Addr} {m qual : Str} {st : Stmt} {N ps : List Str} {k : Nat} {sp : SpG} (F : AtM K C m qual st) (S : GScope N ps (defScope st)) (len : ∀ vs H Q E, sp vs H Q E → vs.length = ps.length)
    (hb : ∀ (kV doc pm : Value) (an : Option Addr) (cdv ct : Value) (us : List Value), us.length = ps.length → bindArgs (PySem.W.fnOf m qual (defArgs st) (defBody st) (defScope st) .none kV doc pm an cdv ct) ⟨us, []⟩ = pure (ps.zip us))
    (hbody : ∀ (f : Addr) (cdv : Value) (A : Around) (outer : List Env) (s : Shared) (H : Hp) (vs : List V) (Q : List V → Hp → Prop) (E : XK) (pn : List (Addr × Obj)), Room k (A.deeper (envOfC qual (defScope st) s.heap.objs.size f cdv)) → sp vs H Q E →
      ∃ t, GSs (gcxOf P w K mg base N qual (defScope st) f cdv A outer s H E pn) (defBody st) t ∧ t { nx := fun ys _ H' => Q ys H', rt := fun ys v H' => v = .non ∧ Q ys H' } [] (start N vs) H) : CalGn P w K mg base (k + 1) C m sp := by
  obtain ⟨f, fd, F, hm⟩ := F.ex
  have hbn := F.bindsN hb
  obtain ⟨oc, od, dV, kV, doc, pm, an, cdv, ct, osl, rfl, lk, hcd, _, _⟩ := F.ex
  exact ⟨f, _, ps, gfn_of lk hcd S len fun A outer s H vs Q E pn hr hsp => hbody f cdv A outer s H vs Q E pn hr hsp, hm, hbn⟩
section
variable {X : Cx} {k j : Nat} {C : Addr} {sp : SpG} {m : Str} {p pos pos' apos : Pos} {o e : Expr} {es : List Expr} {ta : TE} {t : TA}
theorem pe_listM {pl : Sem Bool} {nm : Str} (c : CalGn X.prog X.w X.K X.mg X.base k C m sp) (hr : Room j X.A) (hk : k + 3 ≤ j) (hc : Cls X.K C) (he : PE X o ta) (ha : PA X (e :: es) t) (hg : Gl X nm) (hmg : X.mg nm = none) (hv : bootBuiltins nm = some (.type "list")) (hnm : nm ≠ "__name__" := by decide) (hdb : (nm == ("__debug__" : Str)) = false := by decide)
    (hst : starEach (e :: es) X.env = (false, eval e X.env) :: starEach es X.env := by rfl) (hpl : (backTo pos' (starEach es X.env)).any (·.1) = false := by rfl)
    (ht : eval (.Call (.Attribute o m apos) (e :: es) [] pos') X.env = (do
      let ov ← eval o X.env
      standAt apos.atName
      let (f, first) ← holding [ov] (getMethod ov m pl)
      callWith pos' f first (backTo pos' (starEach (e :: es) X.env)) (backToKw pos' (keywordEach [] X.env))) := by rfl)
    (hs : starEach [.Call (.Attribute o m apos) (e :: es) [] pos'] X.env = (false, eval (.Call (.Attribute o m apos) (e :: es) [] pos') X.env) :: starEach [] X.env := by rfl) :
    PE X (.Call (.Name nm p) [.Call (.Attribute o m apos) (e :: es) [] pos'] [] pos) (tListG (tMethG C m sp [] (fun _ _ _ => False) ta t)) := by
  obtain ⟨f, fd, ps, F, hm, hb⟩ := c.ex
  exact pe_listG (k := k) (pgen_meth he hc hm F (hr.mono (by omega)) hb .nil ha hst hpl ht) passF (fun _ _ _ h => h.elim) (hr.mono hk) hg hmg hv hnm hdb hs
end
theorem r_listG {tg : TGen} {σ : L2.St} {H : Hp} {Q : VK} (q : tg σ H fun out H2 => ∀ p, H2 p = none → Q (.ref p) (upd H2 p (.lst out))) : tListG tg σ H Q := q
theorem r_methG {C : Addr} {m : Str} {sp : SpG} {dvs : List V} {E : XK} {ta : TE} {t : TA} {σ : L2.St} {H : Hp} {cont : List V → Hp → Prop} (q : ta σ H fun x H1 => ∃ a dx fs, x = .ref a ∧ H1 a = some (.ins C dx fs) ∧ fs.lookup m = none ∧ t σ H1 fun vs H2 => sp (x :: (vs ++ dvs)) H2 cont E) : tMethG C m sp dvs E ta t σ H cont := q
end WP

set_option Elab.async false
set_option linter.all false
set_option maxRecDepth 100000
set_option maxHeartbeats 1000000
/-! a generator def's body whose consumer stores in its own frame (at L) and fills a list that it keeps (at S) -/
namespace WP
open PySem PySem.Spec PyProof.Rows L2 GenW
/-- the context, as if the consumer's frame had been o at the call -/
def Xat (X : Cx) (L : Addr) (o : Obj) : Cx := { X with s_0 := { X.s_0 with heap := X.s_0.heap.update L (fun _ => o) } }
def GIr (X : Cx) (L S : Addr) (Ω : Obj → Prop) (ip : List (Addr × Obj)) (ys : List V) (σ : L2.St) (H : Hp) (s : Shared) : Prop := (∃ o, Ω o ∧ Inv (Xat X L o) ip σ H s) ∧ H S = some (.lst ys)
def GYr (X : Cx) (L S : Addr) (Ω : Obj → Prop) : Protocol := fun n s₀ v s kap =>
  ∃ ys x ip σ H, n + 1 + ys.length = sizeLine ∧ L2.RelV x v ∧ GIr X L S Ω ip ys σ H s ∧ ∀ s', GIr X L S Ω ip (ys ++ [x]) σ (upd H S (.lst (ys ++ [x]))) s' → kap (.send .none) s'
def GRr (X : Cx) (L S : Addr) (Ω : Obj → Prop) (Q : List V → VK) : GenEnd := fun n s₀ r s => match r with
  | .ok (.ret u) => ∃ ys v ip σ H, n + ys.length = sizeLine ∧ GIr X L S Ω ip ys σ H s ∧ L2.RelV v u ∧ Q ys v H
  | .ok _ => False
  | .error e => X.xe e s
def GSPr (X : Cx) (L S : Addr) (Ω : Obj → Prop) (ip : List (Addr × Obj)) (D : GEnds) (ys : List V) (f : Flow) (s : Shared) : Prop :=
  match f with
  | .next => ∃ σ H, GIr X L S Ω ip ys σ H s ∧ D.nx ys σ H
  | .brk => ∃ σ H, GIr X L S Ω ip ys σ H s ∧ D.bk ys σ H
  | .cont => ∃ σ H, GIr X L S Ω ip ys σ H s ∧ D.ct ys σ H
  | .ret u => ∃ v σ H, GIr X L S Ω ip ys σ H s ∧ L2.RelV v u ∧ D.rt ys v H
/-- a place in a generator's code: A is around the generator, fs stand between; nothing there catches or guards -/
structure Place (X : Cx) (A : Around) (c : Code) (fs : List Frame) (gd : Bool → Bool) : Prop where
  over : A.over c fs = X.A
  bare : splitAtGen fs = none ∧ (gd false || fs.any Frame.guarded) = false
theorem Place.inner {X : Cx} {A : Around} {c c' : Code} {fs : List Frame} {gd : Bool → Bool} {k : Result → Sem PySem.Fin} {l kp : List Value} {p : Pos} (P : Place X A c fs gd) (hw : c'.weight = 0) (hu : c'.cUnits = 0) : Place X A c' (.ret k none (gd false) l c p kp :: fs) id :=
  ⟨(over_loop hw hu).trans P.over, by simp [splitAtGen, P.bare.1], by simpa [Frame.guarded] using P.bare.2⟩
/-- code of a generator that lets nothing out: from Pre it runs to Post, handing out by Y; the number: how much may still be handed out -/
def Runs (X : Cx) (Y : Protocol) (code : Sem Flow) (Pre : Nat → Shared → Prop) (Post : Nat → Flow → Shared → Prop) : Prop :=
  ∀ (A : Around) (R : GenEnd) (c : Code) (fs : List Frame) (K : Flow → Sem PySem.Fin) (J : Value → Sem PySem.Fin) (gd : Bool → Bool) (lv : List Value → List Value), Place X A c fs gd →
    (∀ n s₀ f s, Post n f s → Seg (model X.prog X.w) A R Y n s₀ c (K f) fs s) → ∀ n s₀ s, Pre n s → Seg (model X.prog X.w) A R Y n s₀ c (code.wrap K J gd lv) fs s
section
variable {X : Cx} {Y : Protocol} {code : Sem Flow} {Pre : Nat → Shared → Prop} {Mid Post : Nat → Flow → Shared → Prop}
theorem Runs.of_ex {ι : Type} {Pr : ι → Nat → Shared → Prop} (h : ∀ i, Runs X Y code (Pr i) Post) : Runs X Y code (fun n s => ∃ i, Pr i n s) Post :=
  fun A R c fs K J gd lv P k n s₀ s ⟨i, p⟩ => h i A R c fs K J gd lv P k n s₀ s p
theorem Runs.imp {Pre' : Nat → Shared → Prop} (h : Runs X Y code Pre Mid) (a : ∀ n s, Pre' n s → Pre n s) (b : ∀ n f s, Mid n f s → Post n f s) : Runs X Y code Pre' Post :=
  fun A R c fs K J gd lv P k n s₀ s p => h A R c fs K J gd lv P (fun n s₀ f s q => k n s₀ f s (b n f s q)) n s₀ s (a n s p)
/-- code that hands out nothing -/
theorem Runs.of_wp (none : ∀ e s, ¬ X.xe e s) (h : ∀ n s, Pre n s → wpAny (model X.prog X.w) X.A code (Post n) X.xe s) : Runs X Y code Pre Post := fun A R c fs K J gd lv P k n s₀ s p => by
  refine seg_wrap ?_
  rw [P.over]
  exact wpAny_mono (h n s p) (fun f s' q => k n s₀ f s' q) fun e s' z => (none e s' z).elim
theorem Runs.none : Runs X Y (execs [] X.env) (fun n s => Post n .next s) Post := fun A R c fs K J gd lv P k n s₀ s p => seg_execs_nil (k n s₀ .next s p)
theorem Runs.seq {st : Stmt} {rest : List Stmt} (a : Runs X Y (exec st X.env) Pre Mid) (b : Runs X Y (execs rest X.env) (fun n s => Mid n .next s) Post) (out : ∀ n f s, f ≠ .next → Mid n f s → Post n f s) : Runs X Y (execs (st :: rest) X.env) Pre Post :=
  fun A R c fs K J gd lv P k n s₀ s p => seg_execs_cons (a A R c fs _ J gd lv P (fun n' s₀' f s' q => by
    rcases f with _ | _ | _ | u
    · exact b A R c fs K J gd lv P k n' s₀' s' q
    · exact k n' s₀' _ s' (out n' _ s' (by simp) q)
    · exact k n' s₀' _ s' (out n' _ s' (by simp) q)
    · exact k n' s₀' _ s' (out n' _ s' (by simp) q)) n s₀ s p)
/-- a loop: I m holds at its head, m goes down -/
theorem Runs.loop {test : Expr} {body : List Stmt} {pos : Pos} {I Go : Nat → Nat → Shared → Prop} (none : ∀ e s, ¬ X.xe e s)
    (ask : ∀ m n s, I m n s → wpAny (model X.prog X.w) X.A (isTrue test X.env (eval test X.env)) (fun b s' => if b = true then Go m n s' else Post n .next s') X.xe s)
    (turn : ∀ m, Runs X Y (execs body X.env) (Go m) (fun n f s => match f with | .next => ∃ m', m' < m ∧ I m' n s | .cont => ∃ m', m' < m ∧ I m' n s | .brk => Post n .next s | .ret v => Post n (.ret v) s)) :
    Runs X Y (exec (.While test body [] pos) X.env) (fun n s => ∃ m, I m n s) Post := by
  intro A R c fs K J gd lv P k n s₀ s start
  obtain ⟨m, i⟩ := start
  refine seg_While fun p => ?_
  induction m using Nat.strongRecOn generalizing n s₀ s with
  | ind m ih =>
    have Q : ∀ kk : Result → Sem PySem.Fin, Place X A (.whileLoop test body [] X.env) (.ret kk Option.none (gd false) (lv []) c p [] :: fs) id := fun kk => P.inner rfl rfl
    refine seg_whileLoop ?_
    rw [(Q _).over]
    refine wpAny_mono (ask m n s i) (fun b s' g => ?_) fun e s' z => (none e s' z).elim
    cases b with
    | false => exact seg_execs_nil (seg_leaf (.ok .next) (k n s₀ .next s' g))
    | true =>
      refine turn m A R _ _ _ _ id id (Q _) (fun n' s₀' f s2 q => ?_) n s₀ s' g
      rcases f with _ | _ | _ | v
      · exact let ⟨m', lt, i'⟩ := q; seg_again rfl (ih m' lt n' s₀' s2 i')
      · exact seg_leaf (.ok .next) (k n' s₀' .next s2 q)
      · exact let ⟨m', lt, i'⟩ := q; seg_again rfl (ih m' lt n' s₀' s2 i')
      · exact seg_leaf (.ok (.ret v)) (k n' s₀' (.ret v) s2 q)
/-- e is handed out -/
theorem Runs.out {e : Expr} {yp pos : Pos} {Pre : Nat → Shared → Prop} (none : ∀ e s, ¬ X.xe e s) (h : ∀ n s, Pre n s → ∃ m, n = m + 1 ∧ wpAny (model X.prog X.w) X.A (eval e X.env) (fun v s' => ∀ s₀ kap, (∀ s'', Post m .next s'' → kap (.send .none) s'') → Y m s₀ v s' kap) X.xe s)
    (hco : X.env.scope.isCoroutine = false := by rfl) (hi : interactive X.env = false := by rfl) : Runs X Y (exec (.Expr (.Yield (some e) yp) pos) X.env) Pre Post := fun A R c fs K J gd lv P k n s₀ s p => by
  obtain ⟨m, rfl, w⟩ := h n s p
  obtain ⟨b1, b2⟩ := P.bare
  rw [Bool.or_eq_false_iff] at b2
  refine seg_Expr_Yield b1 b2.1 b2.2 ?_ hco hi
  rw [P.over]
  exact wpAny_mono w (fun v s' q kap hk => q s₀ kap fun s'' z => hk .none s'' (k m s'' .next s'' z)) fun x s' z => (none x s' z).elim
end
/-- a statement of such a generator, by its reading -/
def AtYs (X : Cx) (L S : Addr) (Ω : Obj → Prop) (ip : List (Addr × Obj)) (P : List V → L2.St → Hp → Prop) (n : Nat) (s : Shared) : Prop := ∃ ys σ H, n + ys.length = sizeLine ∧ GIr X L S Ω ip ys σ H s ∧ P ys σ H
def EndYs (X : Cx) (L S : Addr) (Ω : Obj → Prop) (ip : List (Addr × Obj)) (D : GEnds) (n : Nat) (f : Flow) (s : Shared) : Prop := ∃ ys, n + ys.length = sizeLine ∧ GSPr X L S Ω ip D ys f s
structure GSr (X : Cx) (L S : Addr) (Ω : Obj → Prop) (st : Stmt) (t : TGn) : Prop where
  run : ∀ (ip : List (Addr × Obj)) (D : GEnds), Runs X (GYr X L S Ω) (exec st X.env) (AtYs X L S Ω ip (t D)) (EndYs X L S Ω ip D)
structure GSsr (X : Cx) (L S : Addr) (Ω : Obj → Prop) (st : List Stmt) (t : TGn) : Prop where
  run : ∀ (ip : List (Addr × Obj)) (D : GEnds), Runs X (GYr X L S Ω) (execs st X.env) (AtYs X L S Ω ip (t D)) (EndYs X L S Ω ip D)
section
variable {X : Cx} {L S : Addr} {Ω : Obj → Prop} {st : Stmt} {rest : List Stmt}
/-- a statement that hands out nothing -/
def tPlainS (S : Addr) (t : TS) : TGn := fun D ys σ H => t { nx := fun σ' H' => H' S = some (.lst ys) ∧ D.nx ys σ' H', rt := fun v H' => H' S = some (.lst ys) ∧ D.rt ys v H', bk := fun σ' H' => H' S = some (.lst ys) ∧ D.bk ys σ' H', ct := fun σ' H' => H' S = some (.lst ys) ∧ D.ct ys σ' H' } σ H
theorem gsr_ps {t : TS} (h : ∀ o, PS (Xat X L o) st t) (none : ∀ e s, ¬ X.xe e s := by exact fun _ _ z => z) : GSr X L S Ω st (tPlainS S t) :=
  ⟨fun ip D => .of_wp none fun n s ⟨ys, σ, H, hn, ⟨⟨o, w, I⟩, _⟩, ht⟩ => wpAny_mono ((h o).run _ s σ H _ I ht) (fun f s' q => ⟨ys, hn, by
    rcases f with _ | _ | _ | u
    · exact let ⟨σ', H', J, l, q⟩ := q; ⟨σ', H', ⟨⟨o, w, J⟩, l⟩, q⟩
    · exact let ⟨σ', H', J, l, q⟩ := q; ⟨σ', H', ⟨⟨o, w, J⟩, l⟩, q⟩
    · exact let ⟨σ', H', J, l, q⟩ := q; ⟨σ', H', ⟨⟨o, w, J⟩, l⟩, q⟩
    · exact let ⟨v, σ', H', J, r, l, q⟩ := q; ⟨v, σ', H', ⟨⟨o, w, J⟩, l⟩, r, q⟩⟩) fun _ _ z => z⟩
theorem gssr_nil : GSsr X L S Ω [] tG0 := ⟨fun ip D => Runs.none.imp (fun n s ⟨ys, σ, H, hn, i, q⟩ => ⟨ys, hn, σ, H, i, q⟩) fun _ _ _ z => z⟩
theorem gssr_cons {t u : TGn} (a : GSr X L S Ω st t) (b : GSsr X L S Ω rest u) : GSsr X L S Ω (st :: rest) (tGThen t u) :=
  ⟨fun ip D => (a.run ip { D with nx := fun ys σ H => u D ys σ H }).seq ((b.run ip D).imp (fun n s ⟨ys, hn, σ, H, i, q⟩ => ⟨ys, σ, H, hn, i, q⟩) fun _ _ _ z => z) fun n f s hf ⟨ys, hn, q⟩ => ⟨ys, hn, by
    rcases f with _ | _ | _ | u
    · exact absurd rfl hf
    · exact q
    · exact q
    · exact q⟩⟩
def tGYieldS (S : Addr) (te : TE) : TGn := fun D ys σ H => ys.length < sizeLine ∧ te σ H fun x H1 => H1 S = some (.lst ys) ∧ D.nx (ys ++ [x]) σ (upd H1 S (.lst (ys ++ [x])))
theorem gsr_yield {e : Expr} {yp pos : Pos} {te : TE} (he : ∀ o, PE (Xat X L o) e te) (hco : X.env.scope.isCoroutine = false := by rfl) (hi : interactive X.env = false := by rfl) (none : ∀ e s, ¬ X.xe e s := by exact fun _ _ z => z) : GSr X L S Ω (.Expr (.Yield (some e) yp) pos) (tGYieldS S te) :=
  ⟨fun ip D => .out none (fun n s ⟨ys, σ, H, hn, ⟨⟨o, w, I⟩, _⟩, lt, ht⟩ => ⟨n - 1, by omega, wpAny_mono ((he o).run _ s σ H _ I ht) (fun v s' ⟨x, H1, J, r, l, q⟩ s₀ kap hk =>
    ⟨ys, x, ip, σ, H1, by omega, r, ⟨⟨o, w, J⟩, l⟩, fun s'' z => hk s'' ⟨ys ++ [x], by simp only [List.length_append, List.length_singleton]; omega, σ, _, z, q⟩⟩) fun _ _ z => z⟩) hco hi⟩
def tGWhileS (S : Addr) (c : TT) (tb : TGn) : TGn := fun D ys σ H => ∃ W : Nat → List V → L2.St → Hp → Prop, (∃ m, W m ys σ H) ∧ ∀ m ys σ H, W m ys σ H →
  c σ H fun b H1 => H1 S = some (.lst ys) ∧ if b = true then ∃ N : List V → L2.St → Hp → Prop, (∀ ys' σ' H', N ys' σ' H' → ∃ m', m' < m ∧ W m' ys' σ' H') ∧ tb { D with nx := N, ct := N, bk := D.nx } ys σ H1 else D.nx ys σ H1
theorem gsr_while {test : Expr} {body : List Stmt} {pos : Pos} {tc : TT} {tb : TGn} (hc : ∀ o, PT (Xat X L o) test tc) (hb : GSsr X L S Ω body tb) (none : ∀ e s, ¬ X.xe e s := by exact fun _ _ z => z) : GSr X L S Ω (.While test body [] pos) (tGWhileS S tc tb) := by
  refine ⟨fun ip D => ?_⟩
  have by_W : ∀ W : { W : Nat → List V → L2.St → Hp → Prop // ∀ m ys σ H, W m ys σ H → tc σ H fun b H1 => H1 S = some (.lst ys) ∧ if b = true then ∃ N : List V → L2.St → Hp → Prop, (∀ ys' σ' H', N ys' σ' H' → ∃ m', m' < m ∧ W m' ys' σ' H') ∧ tb { D with nx := N, ct := N, bk := D.nx } ys σ H1 else D.nx ys σ H1 },
      Runs X (GYr X L S Ω) (exec (.While test body [] pos) X.env) (fun n s => ∃ m, AtYs X L S Ω ip (W.1 m) n s) (EndYs X L S Ω ip D) := fun ⟨W, step⟩ => by
    refine Runs.loop (Go := fun m n s => ∃ N : { N : List V → L2.St → Hp → Prop // ∀ ys' σ' H', N ys' σ' H' → ∃ m', m' < m ∧ W m' ys' σ' H' }, AtYs X L S Ω ip (tb { D with nx := N.1, ct := N.1, bk := D.nx }) n s) none (fun m n s ⟨ys, σ, H, hn, ⟨⟨o, w, I⟩, _⟩, i⟩ => ?_) fun m => .of_ex fun N => (hb.run ip _).imp (fun _ _ z => z) fun n f s ⟨ys, hn, q⟩ => ?_
    · refine wpAny_mono ((hc o).run _ s σ H _ I (step m ys σ H i)) (fun b s' ⟨H1, J, l, q⟩ => ?_) fun _ _ z => z
      cases b with
      | false => exact ⟨ys, hn, σ, H1, ⟨⟨o, w, J⟩, l⟩, q⟩
      | true => exact let ⟨N, down, q⟩ := q; ⟨⟨N, down⟩, ys, σ, H1, hn, ⟨⟨o, w, J⟩, l⟩, q⟩
    · rcases f with _ | _ | _ | u
      · exact let ⟨σ, H, i, q⟩ := q; let ⟨m', lt, w⟩ := N.2 ys σ H q; ⟨m', lt, ys, σ, H, hn, i, w⟩
      · exact ⟨ys, hn, q⟩
      · exact let ⟨σ, H, i, q⟩ := q; let ⟨m', lt, w⟩ := N.2 ys σ H q; ⟨m', lt, ys, σ, H, hn, i, w⟩
      · exact ⟨ys, hn, q⟩
  exact (Runs.of_ex by_W).imp (fun n s ⟨ys, σ, H, hn, i, W, ⟨m, w⟩, step⟩ => ⟨⟨W, step⟩, m, ys, σ, H, hn, i, w⟩) fun _ _ _ z => z
end
end WP

set_option Elab.async false
set_option linter.all false
set_option maxRecDepth 100000
set_option maxHeartbeats 1000000
/-! the consumer's frame has changed, its list has grown: the generator's context is moved along -/
namespace WP
open PySem PySem.Spec PyProof.Rows L2 GenW
section
variable {X : Cx} {L S : Addr} {o o' : Obj} {pins : List (Addr × Obj)} {σ : L2.St} {H H' : Hp} {s : Shared}
theorem xat_ne {b : Addr} (h : b ≠ L) : (Xat X L o).s_0.heap.get? b = X.s_0.heap.get? b := Heap.get?_update_other _ _ (Ne.symm h)
theorem xat_self {oo : Obj} (h0 : X.s_0.heap.get? L = some oo) (nf : o.isFreed = false) : (Xat X L o).s_0.heap.get? L = some o := Heap.get?_update_self _ h0 nf
theorem xat_size : (Xat X L o).s_0.heap.objs.size = X.s_0.heap.objs.size := Heap.size_update _ _ _
theorem fun_upd {h base : Heap} {oo : Obj} (h0 : h.get? L = some oo) (nf : o.isFreed = false) (nd : ∀ vs, o.data ≠ .fields vs) : ∀ {l : List Env}, h.FunFrames base l → (h.update L (fun _ => o)).FunFrames base l
  | [], _ => trivial
  | env :: r, hl => by
    obtain ⟨hk, ⟨L', o1, hf, hn, ho, hd⟩, hr⟩ := hl
    refine ⟨hk, ?_, fun_upd h0 nf nd hr⟩
    by_cases e : L' = L
    · subst e
      exact ⟨L', o, hf, hn, Heap.get?_update_self _ h0 nf, nd⟩
    · exact ⟨L', o1, hf, hn, (Heap.get?_update_other _ _ (Ne.symm e)).trans ho, hd⟩
theorem xat_ok {oo : Obj} (ok : X.Ok) (h0 : X.s_0.heap.get? L = some oo) (hL : L ∈ X.fs) (nf : o.isFreed = false) (nd : ∀ vs, o.data ≠ .fields vs) : (Xat X L o).Ok := by
  have hsz : (Xat X L o).s_0.heap.objs.size = X.s_0.heap.objs.size := xat_size
  refine ⟨ok.mod, ok.kind, ok.glob, ok.blt, by rw [hsz]; exact ok.above, ok.inj, ok.has, fun x c h1 h2 => by rw [hsz]; exact ok.cab x c h1 h2, ok.hd, ok.frames, ok.stk, ok.exf, fun b ob e => ?_, by rw [hsz]; exact ok.bsz, ok.noex, ok.exfs, fun_upd h0 nf nd ok.funs, ok.frf⟩
  have hb : b ≠ L := fun z => by
    have := (ok.funs.mem hL).1
    have e' : X.base.get? b = some ob := e
    rw [z, this] at e'
    cases e'
  exact ⟨(xat_ne hb).trans (ok.bs b ob e).1, (ok.bs b ob e).2⟩
/-- R: from one look of the consumer's frame to the next -/
theorem inv_move {oo : Obj} {ys zs : List V} {h' : Heap} {g' : Array GenState} {d' : Drawn} {t' : Nat} (ok : X.Ok) (hex : X.ex = []) (hcl : X.env.cells = []) (h0 : X.s_0.heap.get? L = some oo) (hL : L ∈ X.fs) (hS0 : X.H_0 S ≠ none) (no : o.isFreed = false) (nf : o'.isFreed = false) (nd : ∀ vs, o'.data ≠ .fields vs)
    (I : Inv (Xat X L o) pins σ H s) (hS : H S = some (.lst ys)) (hk : ∀ b ob, b ≠ L → b ≠ S → s.heap.get? b = some ob → h'.get? b = some ob) (hLo : h'.get? L = some o') (hSo : ∃ q, h'.get? S = some q) (hg : AllBare g') (hok : HOk X.prog X.w (upd H S (.lst zs)) h') :
    Inv (Xat X L o') pins σ (upd H S (.lst zs)) { s with heap := h', gens := g', drawn := d', toks := t' } := by
  have s0L : (Xat X L o).s_0.heap.get? L = some o := xat_self h0 no
  have nS : ∀ {b : Addr}, H b = none → b ≠ S := fun {b} n z => by rw [z, hS] at n; cases n
  have nS0 : ∀ {b : Addr}, X.H_0 b = none → b ≠ S := fun {b} n z => hS0 (by rw [← z]; exact n)
  have hLH : H L = none := I.base.free L o s0L (ok.frf L hL) (by rw [show (Xat X L o).ex = [] from hex]; exact fun z => nomatch z)
  have hex' : ∀ b : Addr, b ∉ (Xat X L o).ex := fun b z => by rw [show (Xat X L o).ex = [] from hex] at z; cases z
  have locL : X.env.locals ≠ L := fun z => by
    have h1 := Heap.lt_size h0
    have h2 := ok.above
    rw [z] at h2
    exact absurd (Nat.lt_of_lt_of_le h1 h2) (Nat.lt_irrefl _)
  have noc : ∀ {x : Str} {c : Addr}, X.env.cells.lookup x = some c → False := fun {x c} e => by rw [hcl] at e; cases e
  have b0 : ∀ {b : Addr} {ob : Obj}, b ≠ L → (Xat X L o').s_0.heap.get? b = some ob → (Xat X L o).s_0.heap.get? b = some ob := fun {b ob} hb e => (xat_ne hb).trans ((xat_ne hb).symm.trans e)
  refine ⟨xat_ok ok h0 hL nf nd, I.os, hg, ⟨fun b ob e n hf hx => ?_, fun b ob e n hf hx => ?_, fun b ob e n hx => ?_, fun b ob e hx => ?_, fun b xs e => ?_, fun b ob u e => ?_, fun b ps e => ?_⟩, ?_, fun x c e => (noc e).elim, ?_, fun x c e => (noc e).elim, fun p hp => ?_, hok, I.len⟩
  · have hb : b ≠ L := fun z => hf (by rw [z]; exact hL)
    exact hk b ob hb (nS0 n) (I.base.keep b ob (b0 hb e) n hf (hex' b))
  · by_cases hb : b = L
    · subst hb
      have e' : (Xat X b o').s_0.heap.get? b = some o' := xat_self h0 nf
      rw [e'] at e
      cases e
      exact ⟨o'.slots, hLo⟩
    · obtain ⟨sl, z⟩ := I.base.slot b ob (b0 hb e) n hf (hex' b)
      exact ⟨sl, hk b _ hb (nS0 n) z⟩
  · rw [upd_ne (nS0 n)]
    by_cases hb : b = L
    · rw [hb]
      exact hLH
    · exact I.base.free b ob (b0 hb e) n (hex' b)
  · by_cases hb : b = L
    · rw [hb]
      exact ⟨o', hLo⟩
    · by_cases hbS : b = S
      · rw [hbS]
        exact hSo
      · obtain ⟨o2, z⟩ := I.base.there b ob (b0 hb e) (hex' b)
        exact ⟨o2, hk b o2 hb hbS z⟩
  · have z := I.base.tups b xs e
    rw [upd_ne (fun y => by rw [y, hS] at z; cases z)]
    exact z
  · have z := I.base.frzs b ob u e
    rw [upd_ne (fun y => by rw [y, hS] at z; cases z)]
    exact z
  · obtain ⟨more, z⟩ := I.base.tbls b ps e
    exact ⟨more, by rw [upd_ne (fun y => by rw [y, hS] at z; cases z)]; exact z⟩
  · obtain ⟨m, ⟨ol, es, ep, ho, hr⟩, hlo⟩ := I.loc
    refine ⟨m, ⟨ol, es, ep, hk _ _ locL (nS I.free) ho, hr⟩, fun i x v e1 e2 e3 => ?_⟩
    obtain ⟨u, r, l⟩ := hlo i x v e1 e2 e3
    refine ⟨u, r, ?_⟩
    rcases l with l | ⟨_, c, ec, _⟩
    · exact .inl l
    · exact (noc ec).elim
  · show upd H S (.lst zs) X.env.locals = none
    have hf : H X.env.locals = none := I.free
    rw [upd_ne (nS hf)]
    exact hf
  · obtain ⟨p1, p2, p3, p4, p5⟩ := I.pin p hp
    exact ⟨hk _ _ (fun z => p4 (by rw [z]; exact hL)) (nS p2) p1, by rw [upd_ne (nS p2)]; exact p2, p3, p4, p5⟩
end
end WP

set_option Elab.async false
set_option linter.all false
set_option maxRecDepth 100000
set_option maxHeartbeats 1000000
/-! a generator def is called: what the consumer is told -/
namespace WP
open PySem PySem.Spec PyProof.Rows L2 GenW
/-- the generator's context -/
abbrev gxr (P : Program) (w : World) (K : PySem.W.Frag) (mg : Str → Option Value) (base : Heap) (N : List Str) (qual : Str) (scope : Scope) (f : Addr) (cdv : Value) (A : Around) (outer : List Env) (s : Shared) (H : Hp) (a : Addr) (go : Obj) : Cx := (gcxOf P w K mg base N qual scope f cdv A outer s H (fun _ _ _ => False) [(a, go)]).nox
def REr (X : Cx) (L S : Addr) (Ω : Obj → Prop) (Q : List V → Hp → Prop) : GenEnd := fun n s₀ r s1 => ((r = .ok (.ret .none) ∨ r = .ok .next) ∧ ∃ ys ip σ H, GIr X L S Ω ip ys σ H s1 ∧ Q ys H) ∨ ∃ e, r = .error e ∧ False
structure Gmr (P : Program) (w : World) (A : Around) (outer : List Env) (H : Hp) (s s' : Shared) (L S : Addr) (Ω : Obj → Prop) (a : Addr) (g : Nat) (c : Code) (go : Obj) (X : Cx) (σ : L2.St) (Q : List V → Hp → Prop) : Prop where
  lo : s.heap.objs.size ≤ a
  hi : a < s'.heap.objs.size
  gen : ∀ h : Heap, h.get? a = some go → h.IsGen a g
  get : s'.heap.get? a = some go
  st : s'.gens[g]? = some (.fresh c)
  os : s'.os = s.os
  bare : AllBare s'.gens
  lim : s'.heap.NoLimit
  keep : ∀ b o, s.heap.get? b = some o → s'.heap.get? b = some o
  prog : X.prog = P
  wd : X.w = w
  s0 : X.s_0 = s
  h0 : X.H_0 = H
  fs : X.fs = frs outer
  ex : X.ex = []
  cl : X.env.cells = []
  xe : X.xe = fun _ _ => False
  pn : X.pn = [(a, go)]
  inv : Inv X [] σ H s'
  seg : ∀ s2, GIr X L S Ω [] [] σ H s2 → Seg (model P w) A (REr X L S Ω Q) (GYr X L S Ω) sizeLine s2 c ((model P w).den c) [] s2
/-- a generator's code, from its first statement on -/
theorem gen_seg {X : Cx} {L S : Addr} {Ω : Obj → Prop} {A : Around} {body : List Stmt} {t : TGn} {σ : L2.St} {H : Hp} {s : Shared} {Q : List V → Hp → Prop} (hA : A.over (.func body X.env) [] = X.A) (b : GSsr X L S Ω body t)
    (q : t { nx := fun ys _ H' => Q ys H', rt := fun ys v H' => v = .non ∧ Q ys H' } [] σ H) (i : GIr X L S Ω [] [] σ H s) :
    Seg (model X.prog X.w) A (REr X L S Ω Q) (GYr X L S Ω) sizeLine s (.func body X.env) ((model X.prog X.w).den (.func body X.env)) [] s := by
  refine seg_func (b.run [] _ A _ _ [] _ _ id id ⟨hA, rfl, rfl⟩ (fun n s₀ f s' e => ?_) sizeLine s s ⟨[], σ, H, Nat.add_zero _, i, q⟩)
  obtain ⟨ys, -, e⟩ := e
  rcases f with _ | _ | _ | u
  · exact let ⟨σ', H', i', z⟩ := e; seg_end (.ok (.ret .none)) (.inl ⟨.inl rfl, ys, [], σ', H', i', z⟩)
  · exact let ⟨_, _, _, z⟩ := e; z.elim
  · exact let ⟨_, _, _, z⟩ := e; z.elim
  · obtain ⟨v, σ', H', i', rv, rfl, z⟩ := e
    exact seg_end (.ok (.ret u)) (.inl ⟨.inl (by rw [show u = Value.none from rv]), ys, [], σ', H', i', z⟩)
/-- a generator def is called: its frame is laid, then the generator that has not begun. Of heaps alone -/
theorem gen_called {P : Program} {w : World} {K : PySem.W.Frag} {A : Around} {s : Shared} {R : Result → Shared → Prop} {f : Addr} {name qual : Str} {params : Arguments} {body : List Stmt} {scope : Scope} {dV kV doc pm cdv ct oc : Value} {an od : Option Addr} {osl : Array (Option Value)} {N ps : List Str} {args : Args} {us : List Value}
    (lk : K.lookup f = some ⟨oc, od, .func (PySem.W.fnOf name qual params body scope dV kV doc pm an cdv ct), osl⟩) (hcd : PySem.W.codeIn K cdv qual = true) (S : GScope N ps scope) (KX : K.In s.heap) (lim : s.heap.NoLimit) (hd : A.depth < recursionLimit) (hb : BindsTo s (PySem.W.fnOf name qual params body scope dV kV doc pm an cdv ct) args (ps.zip us))
    (h : ∀ s1, InCallC s s.heap.objs.size (bindL (envOfC qual scope s.heap.objs.size f cdv).kindOf (ps.zip us) fun _ => none) (cellsFrom (s.heap.objs.size + 1) scope.names []) (bindC (envOfC qual scope s.heap.objs.size f cdv).kindOf (ps.zip us) fun _ => none) s1 → s1.heap.NoLimit →
      ∀ (go : Obj) (tk : Nat), (∀ h : Heap, h.get? s1.heap.objs.size = some go → h.IsGen s1.heap.objs.size s1.gens.size) → go.isFreed = false → (∀ v, go.data ≠ .cell v) →
        R (.ok (.ret (.ref s1.heap.objs.size))) { s1 with gens := s1.gens.push (.fresh (.func body (envOfC qual scope s.heap.objs.size f cdv))), toks := tk, heap := s1.heap.push go }) :
    codeAny (model P w) A (.call (.ref f) args) R s := by
  refine codeAny_call_generator hd (KX _ _ lk) rfl S.co S.gen rfl (PySem.W.codeRec_of KX hcd) (hb _ _ _ _ (wpAny_newFunctionEnv_cells S.kind (fun y hy => ?_) fun env he s1 x => ?_))
  · exact (S.par y.1 (List.of_mem_zip (a := y.1) (b := y.2) hy).1).imp id fun c => ⟨c, PySem.W.cellsFrom_some _ _ _ (.inl c)⟩
  · subst he
    have l1 := lim.keeps x.toInCall.keep
    exact ⟨l1, h s1 x l1 _ _ (fun h e => ⟨_, _, _, e, rfl, rfl, rfl⟩) rfl fun v e => nomatch e⟩
theorem gfnr {P : Program} {w : World} {K : PySem.W.Frag} {mg : Str → Option Value} {base : Heap} {k : Nat} {f L S0 : Addr} {Ω : Obj → Prop} {name qual : Str} {params : Arguments} {body : List Stmt} {scope : Scope} {dV kV doc pm cdv ct oc : Value} {an od : Option Addr}
    {osl : Array (Option Value)} {N ps : List Str} (lk : K.lookup f = some ⟨oc, od, .func (PySem.W.fnOf name qual params body scope dV kV doc pm an cdv ct), osl⟩) (hcd : PySem.W.codeIn K cdv qual = true) (S : GScope N ps scope) (hcl : ∀ n, cellsFrom n scope.names [] = [])
    {A : Around} {outer : List Env} {s : Shared} {H : Hp} {args : Args} {us : List Value} {vs : List V} {Q : List V → Hp → Prop} (hl : vs.length = ps.length) (hr : Room (k + 1) A) (e0 : Env0 P w K mg base A outer s H) (hb : BindsTo s (PySem.W.fnOf name qual params body scope dV kV doc pm an cdv ct) args (ps.zip us)) (r : Vals vs us)
    (Aw : Around) (hrw : Room (k + 1) Aw) (hfr : Aw.frames = some outer)
    (hbody : ∀ (a : Addr) (go : Obj), ∃ t, GSsr (gxr P w K mg base N qual scope f cdv Aw outer s H a go) L S0 Ω body t ∧ t { nx := fun ys _ H' => Q ys H', rt := fun ys v H' => v = .non ∧ Q ys H' } [] (start N vs) H) :
    codeAny (model P w) A (.call (.ref f) args) (fun r s' => match r with | .ok (.ret u) => ∃ a g c go, u = .ref a ∧ Gmr P w Aw outer H s s' L S0 Ω a g c go (gxr P w K mg base N qual scope f cdv Aw outer s H a go) (start N vs) Q | _ => False) s := by
  have here : ∀ b o, base.get? b = some o → s.heap.get? b = some o := fun b o e => (e0.bs b o e).1
  refine gen_called lk hcd S (e0.mod.kin.keeps here) (e0.mod.nolimit.keeps here) hr.depth hb fun s1 x lim1 go tk isg nf nc => ?_
  obtain ⟨h1, tk1, e1, -⟩ := x.done
  have I := inv_startG (E := fun _ _ _ => False) S hrw.hd (A := Aw) { e0 with frames := hfr } hl r x
  have up : ∀ b o, s1.heap.get? b = some o → (s1.heap.push go).get? b = some o := fun b o e => Heap.get?_push_of_some _ e
  have at_ : (s1.heap.push go).get? s1.heap.objs.size = some go := Heap.get?_push_size _ nf
  have ag : AllBare (s1.gens.push (.fresh (.func body (envOfC qual scope s.heap.objs.size f cdv)))) := AllBare.push I.bare rfl
  have lt : s.heap.objs.size < s1.heap.objs.size := x.toInCall.ns.lt
  have J := (I.call' (s' := { s1 with gens := s1.gens.push (.fresh (.func body (envOfC qual scope s.heap.objs.size f cdv))), toks := tk, heap := s1.heap.push go }) (ch := []) rfl (Un.kept up) (I.hok.kept up) ag fun b z => nomatch z).pinnedG (pn := [(s1.heap.objs.size, go)]) (pins := []) fun p hp => by
    obtain rfl : p = (s1.heap.objs.size, go) := by simpa using hp
    exact ⟨at_, I.hok.fresh (Nat.le_refl _), Nat.ne_of_gt lt, I.nofs (Nat.le_refl _), nc⟩
  obtain ⟨t, b, q⟩ := hbody s1.heap.objs.size go
  exact ⟨s1.heap.objs.size, s1.gens.size, .func body (envOfC qual scope s.heap.objs.size f cdv), go, rfl,
    { lo := Nat.le_of_lt lt, hi := by show _ < (s1.heap.push go).objs.size; rw [Heap.size_push]; omega
      gen := isg, get := at_, st := Array.getElem?_push_size .., os := by rw [e1], bare := ag, lim := lim1.keeps up, keep := fun b o e => up b o (x.toInCall.keep b o e)
      prog := rfl, wd := rfl, s0 := rfl, h0 := rfl, fs := rfl, ex := rfl, cl := hcl _, xe := rfl, pn := rfl, inv := J.wish _, seg := fun s2 i => gen_seg over_func b q i }⟩
end WP

set_option Elab.async false
set_option linter.all false
set_option maxRecDepth 100000
set_option maxHeartbeats 1000000
/-! the loop's store and its append, with the states written out -/
namespace WP
open PySem PySem.Spec PyProof.Rows L2 GenW
section
variable {X : Cx} {pins : List (Addr × Obj)} {σ : L2.St} {H : Hp} {s : Shared}
theorem raw_append {i j : Nat} {x t : Str} {v : V} {S : Addr} {xs : List V} {pt pa py pc : Pos} {Q : Value → Shared → Prop} {E : Value → Shared → Prop} (I : Inv X pins σ H s) (hNx : X.N[i]? = some x) (hvx : Vis X.env.scope x) (hNt : X.N[j]? = some t) (hvt : Vis X.env.scope t) (ex : σ[i]? = some (some v)) (et : σ[j]? = some (some (.ref S)))
    (hS : H S = some (.lst xs)) (hz : xs.length < sizeLine) (h : ∀ h' tk, Heap.SameBut S s.heap h' → Inv X pins σ (upd H S (.lst (xs ++ [v]))) { s with heap := h', toks := tk } → Q .none { s with heap := h', toks := tk })
    (hdx : (x == ("__debug__" : Str)) = false := by decide) (hcx : (x == ("__classdict__" : Str)) = false := by decide) (hdt : (t == ("__debug__" : Str)) = false := by decide) (hct : (t == ("__classdict__" : Str)) = false := by decide)
    (hbase : attributeBase (.Name t pt) "append" X.env (eval (.Name t pt) X.env) = eval (.Name t pt) X.env := by rfl)
    (hfew : ((backTo pc (starEach [.Name x py] X.env)).all (fun x => !x.1) && (backToKw pc (keywordEach [] X.env)).all (fun x => x.1.isSome)
      && decide (([.Name x py] : List Expr).length + ([] : List Keyword).length + (if ([] : List Keyword).isEmpty then 0 else 1) < 30)) = true := by rfl)
    (hline : (pa.endLine == pc.line) = true := by rfl) (hs : starEach [.Name x py] X.env = (false, eval (.Name x py) X.env) :: starEach [] X.env := by rfl) (hplain : (backTo pc (starEach [] X.env)).any (·.1) = false := by rfl) :
    wpAny (model X.prog X.w) X.A (eval (.Call (.Attribute (.Name t pt) "append" pa) [.Name x py] [] pc) X.env) Q E s := by
  refine wpAny_Call_method_late hbase hfew hline rfl (raw_name hNt hvt I et (fun u ru => ?_) hdt hct)
  obtain rfl : u = Value.ref S := ru
  obtain ⟨h1, h2⟩ := tyV_is (T := "list") I (show L2.RelV (.ref S) (.ref S) from rfl) (.inl ⟨rfl, _, SqL.of hS⟩)
  refine ⟨"list", "list.append", PySem.F.plainAttrs_list, PySem.F.slot_list_append, PySem.F.type_list_append, h1, h2, ?_⟩
  rw [hs]
  refine Calls.callWith_builtin (by show (false || (backTo pc (starEach [] X.env)).any (·.1)) = false; rw [hplain] <;> rfl) (Calls.evalArgs_plain ?_)
  show wpAny _ _ (spliced ((false, eval (.Name x py) X.env) :: backTo pc (starEach [] X.env))) _ _ s
  refine Calls.spliced_cons (raw_name hNx hvx I ex (fun u ru => ?_) hdx hcx)
  refine Calls.spliced_nil ?_
  obtain ⟨z, its, n, r, hl, e⟩ := I.lstM hS
  refine call_meets F.slot_list_append ⟨_, e, rfl⟩ F.entry_list_append (F.args_list_append_2 _ _) (PySem.list_append S its.toArray n u (by rw [List.size_toArray]; omega)) ⟨e, ?_⟩
  refine h _ _ (Heap.SameBut.update ..) (I.lset (its' := its ++ [u]) hS e (by simp) (r.append (.cons ru .nil)) ?_)
  rw [List.length_append, List.length_singleton]
  omega
end
end WP

set_option Elab.async false
set_option linter.all false
set_option maxRecDepth 100000
set_option maxHeartbeats 1000000
/-! the loop over a generator -/
namespace WP
open PySem PySem.Spec PyProof.Rows L2 GenW
theorem upd_upd {H : Hp} {a : Addr} {p q : HO} : upd (upd H a p) a q = upd H a q := by
  funext b
  by_cases h : b = a
  · rw [h, upd_same, upd_same]
  · rw [upd_ne h, upd_ne h, upd_ne h]
theorem upd_self {H : Hp} {a : Addr} {p : HO} (h : H a = some p) : upd H a p = H := by
  funext b
  by_cases e : b = a
  · rw [e, upd_same, h]
  · rw [upd_ne e]
section
variable {X : Cx} {pins : List (Addr × Obj)} {σ : L2.St} {H : Hp} {s : Shared}
/-- a local's store, on the state alone -/
theorem inv_store {i : Nat} {x : Str} {v : V} {u : Value} {h' : Heap} {t' : Nat} {m : Str → Option Value} (I : Inv X pins σ H s) (hN : X.N.Nodup) (hi : X.N[i]? = some x) (hk : X.env.kindOf x = some .local) (r : L2.RelV v u)
    (hl : ∀ (i : Nat) (x : Str) (v : V), X.N[i]? = some x → σ[i]? = some (some v) → Vis X.env.scope x → ∃ u, L2.RelV v u ∧ Look X.env s.heap m x u) (hn : s.heap.Ns X.env.locals m) (hn' : h'.Ns X.env.locals (fun y => if y = x then some u else m y)) (hs : Heap.SameBut X.env.locals s.heap h') :
    Inv X pins (σ.set i (some v)) H { s with heap := h', toks := t' } := by
  have keep : ∀ {b : Addr} {o : Obj}, b ≠ X.env.locals → s.heap.get? b = some o → h'.get? b = some o := fun n e => (hs.2 _ n).trans e
  have old : ∀ {b : Addr} {o : Obj}, X.s_0.heap.get? b = some o → b ≠ X.env.locals := fun e z => absurd (Nat.lt_of_lt_of_le (Heap.lt_size e) I.ok.above) (by rw [z]; exact Nat.lt_irrefl _)
  have off : ∀ {b : Addr} {u : HO}, H b = some u → b ≠ X.env.locals := fun e z => by
    rw [z, I.free] at e
    cases e
  have cells : ∀ {y : Str} {c : Addr} {w : Option Value}, X.env.cells.lookup y = some c → s.heap.IsCell c w → h'.IsCell c w := fun e z => z.sameBut hs (I.cne _ _ e)
  have b := I.base
  exact
    { ok := I.ok, os := I.os, bare := I.bare
      base :=
        { keep := fun c o e n hb hx => keep (old e) (b.keep c o e n hb hx)
          slot := fun c o e n hb hx => let ⟨sl, z⟩ := b.slot c o e n hb hx; ⟨sl, keep (old e) z⟩
          free := b.free
          there := fun c o e hx => let ⟨o', z⟩ := b.there c o e hx; ⟨o', keep (old e) z⟩
          tups := b.tups, frzs := b.frzs, tbls := b.tbls }
      loc := ⟨_, hn', fun j y v' nj sj vj => by
        rcases Nat.decEq j i with ne | rfl
        · rw [List.getElem?_set_ne (Ne.symm ne)] at sj
          obtain ⟨u', ru, at1 | ⟨k, c, e, z⟩⟩ := hl j y v' nj sj vj
          · exact ⟨u', ru, .inl ⟨at1.1, (if_neg fun e => ne (nodup_ix hN nj (by rw [e]; exact hi))).trans at1.2⟩⟩
          · exact ⟨u', ru, .inr ⟨k, c, e, cells e z⟩⟩
        · obtain rfl := Option.some.inj (hi.symm.trans nj)
          rw [List.getElem?_set_self (by rw [I.len]; exact (List.getElem?_eq_some_iff.mp hi).1)] at sj
          obtain rfl := Option.some.inj (Option.some.inj sj)
          exact ⟨u, r, .inl ⟨hk, if_pos rfl⟩⟩⟩
      cell := fun y c e => let ⟨w, z⟩ := I.cell y c e; ⟨w, cells e z⟩
      free := I.free, freeC := I.freeC
      pin := fun p hp => let ⟨z, z'⟩ := I.pin p hp; ⟨keep z'.2.1 z, z'⟩
      hok := fun c o e => (I.hok c o e).stay (fun d w hd z => keep (hd.elim (fun q => by rw [q]; exact off e) fun q => off q) z) (fun _ q => q) fun _ _ q => q
      len := by rw [List.length_set]; exact I.len }
/-- the call's state, with o for the frame -/
def sv (s : Shared) (L : Addr) (o : Obj) : Shared := { s with heap := s.heap.update L (fun _ => o) }
/-- the consumer's wish on its frame: its own view holds, but for the loop's name -/
def Om (X : Cx) (pins : List (Addr × Obj)) (σ : L2.St) (i : Nat) (H : Hp) (s : Shared) (o : Obj) : Prop := o.isFreed = false ∧ (∀ vs, o.data ≠ .fields vs) ∧ ∃ σ', (∀ k, k ≠ i → σ'[k]? = σ[k]?) ∧ Inv X pins σ' H (sv s X.env.locals o)
theorem om_start {i : Nat} (I : Inv X pins σ H s) : ∃ o, s.heap.get? X.env.locals = some o ∧ Om X pins σ i H s o := by
  obtain ⟨m, ⟨o, es, ep, ho, hd, hr⟩, hl⟩ := id I.loc
  have nf : o.isFreed = false := by
    obtain ⟨a, b, c, d⟩ := o
    cases c <;> first | rfl | (cases hd)
  refine ⟨o, ho, nf, (fun vs e => by rw [hd] at e; cases e), σ, fun _ _ => rfl, ?_⟩
  refine I.kept (t' := s.toks) fun b ob e => ?_
  by_cases hb : b = X.env.locals
  · rw [hb] at e ⊢
    rw [ho] at e
    cases e
    exact Heap.get?_update_self _ ho nf
  · exact (Heap.get?_update_other _ _ (Ne.symm hb)).trans e
end
end WP

set_option Elab.async false
set_option linter.all false
set_option maxRecDepth 100000
set_option maxHeartbeats 1000000
/-! for x in g: t.append(x) -/
namespace WP
open PySem PySem.Spec PyProof.Rows L2 GenW
theorem inv_xat {X : Cx} {L : Addr} {o : Obj} {pins : List (Addr × Obj)} {σ : L2.St} {H : Hp} {s : Shared} (I : Inv X pins σ H s) (h0 : X.s_0.heap.get? L = some o) (hL : L ∈ X.fs) (nf : o.isFreed = false) (nd : ∀ vs, o.data ≠ .fields vs) : Inv (Xat X L o) pins σ H s := by
  have eq : ∀ b : Addr, (Xat X L o).s_0.heap.get? b = X.s_0.heap.get? b := fun b => by
    by_cases hb : b = L
    · rw [hb, xat_self h0 nf, h0]
    · exact xat_ne hb
  refine ⟨xat_ok I.ok h0 hL nf nd, I.os, I.bare, ⟨fun b ob e => I.base.keep b ob ((eq b).symm.trans e), fun b ob e => I.base.slot b ob ((eq b).symm.trans e), fun b ob e => I.base.free b ob ((eq b).symm.trans e), fun b ob e => I.base.there b ob ((eq b).symm.trans e), I.base.tups, I.base.frzs, I.base.tbls⟩, I.loc, I.cell, I.free, I.freeC, I.pin, I.hok, I.len⟩
theorem inv_gens {X : Cx} {pins : List (Addr × Obj)} {σ : L2.St} {H : Hp} {s : Shared} {g : Nat} {x : GenState} (I : Inv X pins σ H s) (hx : x.bare = true) : Inv X pins σ H (s.setGen g x) :=
  ⟨I.ok, I.os, allBare_setGen I.bare hx, I.base, I.loc, I.cell, I.free, I.freeC, I.pin, I.hok, I.len⟩
theorem X_kind {X : Cx} {pins : List (Addr × Obj)} {σ : L2.St} {H : Hp} {s : Shared} (I : Inv X pins σ H s) : X.env.scope.kind = .function := I.ok.kind
section
variable {X XG : Cx} {pins : List (Addr × Obj)} {σ σg : L2.St} {H0 : Hp} {s s' : Shared} {i j g : Nat} {x t : Str} {S a : Addr} {c : Code} {go : Obj} {Q : List V → Hp → Prop} {R : Result → Shared → Prop} {px pt pa py pc pe : Pos}
theorem loop_gen (hN : X.N.Nodup) (hNx : X.N[i]? = some x) (hkx : X.env.kindOf x = some .local) (hNt : X.N[j]? = some t) (hvt : Vis X.env.scope t) (hij : j ≠ i) (et : σ[j]? = some (some (.ref S))) (hst : X.stack = X.env :: X.outer) (hfr : X.env.frame = some X.env.locals)
    (I0 : Inv X pins σ H0 s) (hS0 : H0 S = some (.lst [])) (hh : X.A.handled = none) (hdp : X.A.depth < recursionLimit)
    (G : Gmr X.prog X.w X.A.in1 X.stack H0 s s' X.env.locals S (Om X pins σ i H0 s) a g c go XG σg Q)
    (hD : ∀ σ' H' ys s'', (∀ k, k ≠ i → σ'[k]? = σ[k]?) → Inv X pins σ' H' s'' → H' S = some (.lst ys) → Q ys H' → R (.ok .next) s'')
    (hdx : (x == ("__debug__" : Str)) = false := by decide) (hcx : (x == ("__classdict__" : Str)) = false := by decide) (hdt : (t == ("__debug__" : Str)) = false := by decide) (hct : (t == ("__classdict__" : Str)) = false := by decide)
    (hbase : attributeBase (.Name t pt) "append" X.env (eval (.Name t pt) X.env) = eval (.Name t pt) X.env := by rfl)
    (hfew : ((backTo pc (starEach [.Name x py] X.env)).all (fun x => !x.1) && (backToKw pc (keywordEach [] X.env)).all (fun x => x.1.isSome)
      && decide (([.Name x py] : List Expr).length + ([] : List Keyword).length + (if ([] : List Keyword).isEmpty then 0 else 1) < 30)) = true := by rfl)
    (hline : (pa.endLine == pc.line) = true := by rfl) (hs : starEach [.Name x py] X.env = (false, eval (.Name x py) X.env) :: starEach [] X.env := by rfl) (hplain : (backTo pc (starEach [] X.env)).any (·.1) = false := by rfl)
    (hsw : swapsWith (.Call (.Attribute (.Name t pt) "append" pa) [.Name x py] [] pc) none pe.line X.env = pure false := by rfl) :
    codeAny (model X.prog X.w) X.A (.forLoop (.Name x px) (.ref a) [.Expr (.Call (.Attribute (.Name t pt) "append" pa) [.Name x py] [] pc) pe] [] X.env) R s' := by
  have hLfs : X.env.locals ∈ XG.fs := by
    rw [G.fs, hst]
    unfold frs
    rw [List.filterMap_cons, hfr]
    exact List.mem_cons_self
  have okG : XG.Ok := G.inv.ok
  obtain ⟨oL, hoL, hΩL⟩ := om_start (i := i) I0
  have s0L : XG.s_0.heap.get? X.env.locals = some oL := by rw [G.s0]; exact hoL
  have hS0' : XG.H_0 S ≠ none := by rw [G.h0, hS0]; exact fun e => by cases e
  have hLS : X.env.locals ≠ S := fun e => by
    have := I0.free
    rw [e, hS0] at this
    cases this
  -- the consumer's own view, from the generator's
  have view : ∀ {o : Obj} {σ' : L2.St} {ip : List (Addr × Obj)} {σ2 : L2.St} {H1 : Hp} {s1 : Shared}, Inv X pins σ' H0 (sv s X.env.locals o) → Inv (Xat XG X.env.locals o) ip σ2 H1 s1 → Inv X pins σ' H1 s1 := fun {o σ' ip σ2 H1 s1} V Ig => by
    have b := Ig.base
    have e1 : (Xat XG X.env.locals o).fs = frs X.stack := G.fs
    have e2 : (Xat XG X.env.locals o).ex = [] := G.ex
    have e3 : (Xat XG X.env.locals o).H_0 = H0 := G.h0
    have e4 : (Xat XG X.env.locals o).s_0 = sv s X.env.locals o := by
      show ({ XG.s_0 with heap := XG.s_0.heap.update X.env.locals (fun _ => o) } : Shared) = _
      rw [G.s0]
      rfl
    rw [e1, e2, e3, e4] at b
    have hos : s1.os = (sv s X.env.locals o).os := by
      have := Ig.os
      rw [e4] at this
      exact this
    have hok : HOk X.prog X.w H1 s1.heap := by
      have := Ig.hok
      have p1 : (Xat XG X.env.locals o).prog = X.prog := G.prog
      have p2 : (Xat XG X.env.locals o).w = X.w := G.wd
      rw [p1, p2] at this
      exact this
    exact V.call' (ch := []) hos b hok Ig.bare (fun b z => absurd z (by simp))
  refine codeAny_forLoop_any (fun n s3 => s3.heap.IsGen a g ∧ s3.heap.NoLimit ∧ ∃ gs, s3.gens[g]? = some gs ∧ gs.Goes (model X.prog X.w) X.A.in1 (REr XG X.env.locals S (Om X pins σ i H0 s) Q) (GYr XG X.env.locals S (Om X pins σ i H0 s)) n (.send .none) (s3.setGen g .running)) ?_ sizeLine ?_
  · rintro n s3 ⟨hg, hlim, gs, hgs, hgo⟩
    have hgl : g < s3.gens.size := (Array.getElem?_eq_some_iff.mp hgs).1
    refine wpAny_gsz (n := g + 1) hgl (next_genG (A := X.A) (Er := fun _ _ => False) (F := fun n s₀ s1 => ∃ ys ip σ2 H2, GIr XG X.env.locals S (Om X pins σ i H0 s) ip ys σ2 H2 s1 ∧ Q ys H2) hh hlim hdp hg hgs hgo (fun v s₁ gs' hb hv => ?_) (fun s₁ hp h' hk => ?_) (fun e s₁ he => he.elim))
    · intro hsz
      obtain ⟨ys, xv, ip, σ2, H1, hn, rv, ⟨⟨o, ⟨nf, nd, σ', hσ, V⟩, Ig⟩, hS1⟩, kap⟩ := hv
      have J1 := view V Ig
      -- the frame's object, by the generator's view and by the consumer's
      have s0o : (Xat XG X.env.locals o).s_0.heap.get? X.env.locals = some o := xat_self s0L nf
      obtain ⟨sl, hLr⟩ := Ig.base.slot X.env.locals o s0o (okG.frf _ hLfs) hLfs (by rw [show (Xat XG X.env.locals o).ex = [] from G.ex]; exact fun z => nomatch z)
      obtain ⟨m, hnV, hlV⟩ := id V.loc
      have hnr : s₁.heap.Ns X.env.locals m := by
        obtain ⟨ov, es, ep, ho, hd, hr⟩ := hnV
        have : (sv s X.env.locals o).heap.get? X.env.locals = some o := Heap.get?_update_self _ hoL nf
        rw [this] at ho
        cases ho
        exact ⟨_, es, ep, hLr, hd, hr⟩
      show wpAny _ _ (letOwnedTupleGo (.Name x px) (.ref a) v) _ _ _
      unfold letOwnedTupleGo
      refine wpAny_pure ?_
      refine wpAny_assign_Name (wpAny_storeName_local hkx (s := s₁.setGen g gs') hnr (fun h' hn' hsb => ?_) (by rw [X_kind I0]; rfl))
      have hgs1 : AllBare (s₁.setGen g gs').gens := allBare_setGen Ig.bare hb
      obtain ⟨o', es', ep', ho', hd', hr'⟩ := id hn'
      have nf' : o'.isFreed = false := by
        obtain ⟨a1, a2, a3, a4⟩ := o'
        cases a3 <;> first | rfl | (cases hd')
      have nd' : ∀ vs, o'.data ≠ .fields vs := fun vs e => by rw [hd'] at e; cases e
      have hvL : (sv s X.env.locals o').heap.get? X.env.locals = some o' := Heap.get?_update_self _ hoL nf'
      have V' : Inv X pins (σ'.set i (some xv)) H0 (sv s X.env.locals o') := inv_store (s := sv s X.env.locals o) (h' := (sv s X.env.locals o').heap) (t' := s.toks) V hN hNx hkx rv hlV hnV ⟨o', es', ep', hvL, hd', hr'⟩
        ⟨by show (s.heap.update _ _).objs.size = (s.heap.update _ _).objs.size; rw [Heap.size_update, Heap.size_update], fun b hb => (Heap.get?_update_other _ _ (Ne.symm hb)).trans (Heap.get?_update_other _ _ (Ne.symm hb)).symm⟩
      have hσ' : ∀ k, k ≠ i → (σ'.set i (some xv))[k]? = σ[k]? := fun k hk => by rw [List.getElem?_set_ne (Ne.symm hk)]; exact hσ k hk
      have hΩ' : Om X pins σ i H0 s o' := ⟨nf', nd', _, hσ', V'⟩
      have hokr : HOk XG.prog XG.w H1 h' := fun b ob e => by
        have hfree : H1 X.env.locals = none := J1.free
        refine (Ig.hok b ob e).stay (fun c w' hc q => (hsb.2 c ?_).trans q) (fun _ q => q) fun _ _ q => q
        rintro rfl
        rcases hc with z | hc
        · rw [← z, hfree] at e; cases e
        · rw [hfree] at hc; cases hc
      have hSr : ∃ q, s₁.heap.get? S = some q := by
        obtain ⟨_, its, nn, _, _, e⟩ := J1.lstM hS1
        exact ⟨_, e⟩
      have Ig5 : Inv (Xat XG X.env.locals o') ip σ2 (upd H1 S (.lst ys)) { s₁ with heap := h', gens := (s₁.setGen g gs').gens, drawn := s₁.drawn, toks := s₁.toks + 1 } :=
        inv_move (o := o) okG G.ex G.cl s0L hLfs hS0' nf nf' nd' Ig hS1 (fun b ob hb _ e => (hsb.2 b hb).trans e) ho' (by obtain ⟨q, e⟩ := hSr; exact ⟨q, (hsb.2 S hLS.symm).trans e⟩) hgs1 (by rw [upd_self hS1]; exact hokr)
      have J5 := view V' Ig5
      have hilen : i < σ'.length := by rw [V.len]; exact (List.getElem?_eq_some_iff.mp hNx).1
      refine wpAny_execs_cons (wpAny_Expr_any (raw_append (i := i) (j := j) J5 hNx (.inl hkx) hNt hvt (List.getElem?_set_self hilen) ((hσ' j hij).trans et) upd_same (by omega) (fun h7 tk hsS J7 => ?_) hdx hcx hdt hct hbase hfew hline hs hplain) J5.quiet hsw)
      refine wpAny_execs_nil ?_
      rw [upd_upd] at J7
      have hok7 : HOk XG.prog XG.w (upd H1 S (.lst (ys ++ [xv]))) h7 := by rw [G.prog, G.wd]; exact J7.hok
      have Ig7 : Inv (Xat XG X.env.locals o') ip σ2 (upd H1 S (.lst (ys ++ [xv]))) { s₁ with heap := h7, gens := (s₁.setGen g gs').gens, drawn := s₁.drawn, toks := tk } :=
        inv_move (o := o) okG G.ex G.cl s0L hLfs hS0' nf nf' nd' Ig hS1 (fun b ob hb hbS e => (hsS.2 b hbS).trans ((hsb.2 b hb).trans e)) ((hsS.2 _ hLS).trans ho') (by obtain ⟨_, its, nn, _, _, e⟩ := J7.lstM upd_same; exact ⟨_, e⟩) hgs1 hok7
      have hsz1 : g < s₁.gens.size := by
        have q : (s₁.setGen g gs').gens.size = s₁.gens.size := setGen_size _ _ _
        omega
      have hpin := (Ig7.pin (a, go) (List.mem_append_left _ (by show (a, go) ∈ XG.pn; rw [G.pn]; exact List.mem_singleton.mpr rfl))).1
      have K := kap ((({ s₁ with heap := h7, gens := (s₁.setGen g gs').gens, drawn := s₁.drawn, toks := tk } : Shared)).setGen g .running) ⟨⟨o', hΩ', inv_gens Ig7 rfl⟩, upd_same⟩
      cases n with
      | zero => exact K.elim
      | succ m => exact ⟨m, Nat.lt_succ_self _, G.gen _ hpin, J7.nolimit, gs', setGen_at hsz1, K⟩
    · intro hsz
      obtain ⟨ys, ip, σ2, H1, ⟨⟨o, ⟨nf, nd, σ', hσ, V⟩, Ig⟩, hS1⟩, hQ⟩ := hp
      have J1 := view V Ig
      have J2 : Inv X pins σ' H1 { s₁.setGen g .finished with heap := h' } := (inv_gens (g := g) (x := .finished) J1 rfl).kept (t' := s₁.toks) hk
      exact wpAny_execs_nil (hD σ' H1 ys _ hσ J2 hS1 hQ)
  · refine ⟨G.gen _ G.get, G.lim, _, G.st, rfl, G.seg _ ⟨⟨oL, hΩL, inv_gens (inv_xat G.inv s0L hLfs hΩL.1 hΩL.2.1) rfl⟩, ?_⟩⟩
    exact hS0
end
end WP

set_option Elab.async false
set_option linter.all false
set_option maxRecDepth 100000
set_option maxHeartbeats 1000000
/-! for x in o.m(e, ..): t.append(x), as a statement's rule -/
namespace WP
open PySem PySem.Spec PyProof.Rows L2 GenW
abbrev SpR := Addr → List V → Hp → (List V → Hp → Prop) → Prop
structure CalGr (P : Program) (w : World) (K : PySem.W.Frag) (mg : Str → Option Value) (base : Heap) (k : Nat) (C : Addr) (m : Str) (sp : SpR) : Prop where
  ex : ∃ (f : Addr) (fd : FuncData) (ps : List Str), Meth K C m f ∧ Binds K fd ps [] ∧ (∀ S vs H Q, sp S vs H Q → vs.length = ps.length) ∧
    ∀ (A Aw : Around) (outer : List Env) (s : Shared) (H : Hp) (args : Args) (us : List Value) (vs : List V) (Q : List V → Hp → Prop) (L S : Addr) (Ω : Obj → Prop), Room k A → Room k Aw → Aw.frames = some outer → Env0 P w K mg base A outer s H → BindsTo s fd args (ps.zip us) → Vals vs us → sp S vs H Q →
      codeAny (model P w) A (.call (.ref f) args) (fun r s' => match r with | .ok (.ret u) => ∃ a g c go XG σg, u = .ref a ∧ Gmr P w Aw outer H s s' L S Ω a g c go XG σg Q | _ => False) s
theorem calGr_of {P : Program} {w : World} {K : PySem.W.Frag} {mg : Str → Option Value} {base : Heap} {C : Addr} {m qual : Str} {st : Stmt} {N ps : List Str} {k : Nat} {sp : SpR} (F : AtM K C m qual st) (Sc : GScope N ps (defScope st)) (hcl : ∀ n, cellsFrom n (defScope st).names [] = []) (len : ∀ S vs H Q, sp S vs H Q → vs.length = ps.length)
    (hb : ∀ (kV doc pm : Value) (an : Option Addr) (cdv ct : Value) (us : List Value), us.length = ps.length → bindArgs (PySem.W.fnOf m qual (defArgs st) (defBody st) (defScope st) .none kV doc pm an cdv ct) ⟨us, []⟩ = pure (ps.zip us))
    (hbody : ∀ (f : Addr) (cdv : Value) (A : Around) (outer : List Env) (s : Shared) (H : Hp) (vs : List V) (Q : List V → Hp → Prop) (L S : Addr) (Ω : Obj → Prop) (a : Addr) (go : Obj), Room k (A.deeper (envOfC qual (defScope st) s.heap.objs.size f cdv)) → sp S vs H Q →
      ∃ t, GSsr (gxr P w K mg base N qual (defScope st) f cdv A outer s H a go) L S Ω (defBody st) t ∧ t { nx := fun ys _ H' => Q ys H', rt := fun ys v H' => v = .non ∧ Q ys H' } [] (start N vs) H) : CalGr P w K mg base (k + 1) C m sp := by
  obtain ⟨f, fd, F, hm⟩ := F.ex
  have hbn := F.bindsN hb
  obtain ⟨oc, od, dV, kV, doc, pm, an, cdv, ct, osl, rfl, lk, hcd, _, _⟩ := F.ex
  refine ⟨f, _, ps, hm, hbn, len, fun A Aw outer s H args us vs Q L S Ω hr hrw hfr e0 hbd r hsp => ?_⟩
  refine codeAny_mono (gfnr (L := L) (S0 := S) (Ω := Ω) (Q := Q) lk hcd Sc hcl (len _ _ _ _ hsp) hr e0 hbd r Aw hrw hfr (fun a go => hbody f cdv Aw outer s H vs Q L S Ω a go (hrw.deeper _) hsp)) fun r s' h => ?_
  cases r with
  | error e => exact h
  | ok fl =>
    cases fl with
    | ret u =>
      obtain ⟨a, g, c, go, e, G⟩ := h
      exact ⟨a, g, c, go, _, _, e, G⟩
    | next => exact h
    | brk => exact h
    | cont => exact h
def tForG (i j : Nat) (C : Addr) (m : Str) (sp : SpR) (ta : TE) (t : TA) : TS := fun D σ H => ta σ H fun x H1 => ∃ a dx fs, x = .ref a ∧ H1 a = some (.ins C dx fs) ∧ fs.lookup m = none ∧
  t σ H1 fun vs H2 => ∃ S, σ[j]? = some (some (.ref S)) ∧ H2 S = some (.lst []) ∧ sp S (x :: vs) H2 (fun ys H' => H' S = some (.lst ys) → ∀ σ', (∀ k, k ≠ i → σ'[k]? = σ[k]?) → σ'.length = σ.length → D.nx σ' H')
theorem r_forG {i j : Nat} {C : Addr} {m : Str} {sp : SpR} {ta : TE} {t : TA} {D : Ends} {σ : L2.St} {H : Hp} (q : ta σ H fun x H1 => ∃ a dx fs, x = .ref a ∧ H1 a = some (.ins C dx fs) ∧ fs.lookup m = none ∧
  t σ H1 fun vs H2 => ∃ S, σ[j]? = some (some (.ref S)) ∧ H2 S = some (.lst []) ∧ sp S (x :: vs) H2 (fun ys H' => H' S = some (.lst ys) → ∀ σ', (∀ k, k ≠ i → σ'[k]? = σ[k]?) → σ'.length = σ.length → D.nx σ' H')) : tForG i j C m sp ta t D σ H := q
section
variable {X : Cx} {k l : Nat} {C : Addr} {sp : SpR} {m x t : Str} {px pt pa py pc pe pos pos' apos : Pos} {o e : Expr} {es : List Expr} {ta : TE} {ts : TA} {pl : Sem Bool}
theorem ps_forG (i j : Nat) (c : CalGr X.prog X.w X.K X.mg X.base k C m sp) (hr : Room l X.A) (hk : k + 1 ≤ l) (hc : Cls X.K C) (he : PE X o ta) (ha : PA X (e :: es) ts)
    (hN : X.N.Nodup) (hNx : X.N[i]? = some x := by rfl) (hkx : X.env.kindOf x = some .local := by rfl) (hNt : X.N[j]? = some t := by rfl) (hvt : Vis X.env.scope t := by first | exact .inl rfl | exact .inr (.inl rfl)) (hij : j ≠ i := by decide) (hstk : X.stack = X.env :: X.outer := by rfl) (hfr : X.env.frame = some X.env.locals := by rfl)
    (hst : starEach (e :: es) X.env = (false, eval e X.env) :: starEach es X.env := by rfl) (hpl : (backTo pos' (starEach es X.env)).any (·.1) = false := by rfl)
    (ht : eval (.Call (.Attribute o m apos) (e :: es) [] pos') X.env = (do
      let ov ← eval o X.env
      standAt apos.atName
      let (f, first) ← holding [ov] (getMethod ov m pl)
      callWith pos' f first (backTo pos' (starEach (e :: es) X.env)) (backToKw pos' (keywordEach [] X.env))) := by rfl)
    (hsf : ∀ x, foldedSetIterable (.Call (.Attribute o m apos) (e :: es) [] pos') X.env x = pure x := by intro _; rfl)
    (hdx : (x == ("__debug__" : Str)) = false := by decide) (hcx : (x == ("__classdict__" : Str)) = false := by decide) (hdt : (t == ("__debug__" : Str)) = false := by decide) (hct : (t == ("__classdict__" : Str)) = false := by decide)
    (hbase : attributeBase (.Name t pt) "append" X.env (eval (.Name t pt) X.env) = eval (.Name t pt) X.env := by rfl)
    (hfew : ((backTo pc (starEach [.Name x py] X.env)).all (fun x => !x.1) && (backToKw pc (keywordEach [] X.env)).all (fun x => x.1.isSome)
      && decide (([.Name x py] : List Expr).length + ([] : List Keyword).length + (if ([] : List Keyword).isEmpty then 0 else 1) < 30)) = true := by rfl)
    (hline : (pa.endLine == pc.line) = true := by rfl) (hs : starEach [.Name x py] X.env = (false, eval (.Name x py) X.env) :: starEach [] X.env := by rfl) (hplain : (backTo pc (starEach [] X.env)).any (·.1) = false := by rfl)
    (hsw : swapsWith (.Call (.Attribute (.Name t pt) "append" pa) [.Name x py] [] pc) none pe.line X.env = pure false := by rfl) :
    PS X (.For (.Name x px) (.Call (.Attribute o m apos) (e :: es) [] pos') [.Expr (.Call (.Attribute (.Name t pt) "append" pa) [.Name x py] [] pc) pe] [] pos) (tForG i j C m sp ta ts) := by
  obtain ⟨f, fd, ps, hm, hb, len, run⟩ := c.ex
  refine ⟨fun pins s σ H D I h => ?_⟩
  refine wpAny_For (PySem.W.methodCall_KW (pl := pl) (thn (he.run pins s σ H _ I h) fun u s1 ⟨xv, H1, I1, rx, a, dx, fs, ex, ea, lk, q⟩ => ?_) ht) hsf
  subst ex
  obtain rfl : u = Value.ref a := rx
  refine getmeth_ok I1 ea hc hm lk ?_
  refine PySem.W.callWith_K (first := [.ref a]) (h₀ := X.base) I.ok.mod.kin hm.kp (thn (ha.run pos' pins s1 σ H1 _ I1 q) fun us s2 ⟨vs, H2, I2, r, S, eS, hS, q2⟩ => ⟨I2.kIn, ?_⟩) hst hpl
  have r2 : Vals (V.ref a :: vs) (Value.ref a :: us) := .cons rfl r
  have hl2 : (Value.ref a :: us ++ []).length = ps.length := by
    rw [List.append_nil, ← r2.length]
    exact len _ _ _ _ q2
  have hroom : Room (k + 1) X.A := hr.mono hk
  refine wpAny_call (codeAny_mono (run X.A X.A.in1 X.stack s2 H2 ⟨Value.ref a :: us, []⟩ (Value.ref a :: us) (V.ref a :: vs) _ X.env.locals S (Om X pins σ i H2 s2) (hroom.mono (Nat.le_succ _)) hroom.in1 I2.ok.frames I2.env0 (by have z := hb s2 (Value.ref a :: us) I2.kIn hl2; rw [List.append_nil] at z; exact z) r2 q2) fun r s3 hq => ?_)
  cases r with
  | error e => exact False.elim hq
  | ok fl =>
    cases fl with
    | next => exact False.elim hq
    | brk => exact False.elim hq
    | cont => exact False.elim hq
    | ret u =>
      obtain ⟨a', g, cc, go, XG, σg, rfl, G⟩ := hq
      refine wpAny_pyIter_gen (G.gen _ G.get) ?_
      refine loop_gen hN hNx hkx hNt hvt hij eS hstk hfr I2 hS hr.hd (by have := hr.dp; omega) G (fun σ' H' ys s'' hσ J hSy hQ => ?_) hdx hcx hdt hct hbase hfew hline hs hplain hsw
      exact ⟨σ', H', J, hQ hSy σ' hσ (J.len.trans I2.len.symm)⟩
end
end WP

set_option Elab.async false
set_option linter.all false
set_option maxRecDepth 100000
set_option maxHeartbeats 400000
/-! a comprehension over a list with one test, its elements the items themselves -/
namespace WP
open PySem PySem.Spec PyProof.Rows L2
theorem lc_filt {K : PySem.W.Frag} {a : Addr} {xs : List V} {g : TG} {tt : TT} {te : TE} {vs : List Nat} {σ : L2.St} {H1 : Hp} {Qd : Hp → Prop} {D : Addr} (hD : H1 D = none) (hsq : SqL K H1 a xs) (hn : xs.length ≤ 1000000) (p : V → Bool)
    (hel : ∀ (i : Nat) (x : V), xs[i]? = some x → ∀ H', Evl.Ex H1 H' → H' D ≠ none → ∀ (Q' : VK) (R : Hp → Prop), (p x = true → ∀ H'', Evl.Ex H' H'' → Q' x H'') → (p x = false → ∀ H'', Evl.Ex H' H'' → R H'') → g x (wipe σ vs) H' fun σ2 H2 => wipe σ2 vs = wipe σ vs ∧ tt σ2 H2 fun b H3 => if b = true then te σ2 H3 Q' else R H3)
    (q : ∀ H', Evl.Ex H1 H' → H' D = some (.lst (xs.filter p)) → Qd H') :
    ∃ W : Nat → Nat → Hp → Prop, (∃ m, W 0 m (upd H1 D (.lst []))) ∧ ∀ i m H, W i m H →
      ((Itl K a).stop i H ∧ Qd H) ∨ ((Itl K a).go i H ∧ ∃ Nx : Hp → Prop, (∀ H', Nx H' → ∃ m', m' < m ∧ W (i + 1) m' H') ∧ ∀ x H', (Itl K a).yld i H x H' → g x (wipe σ vs) H' fun σ2 H2 => wipe σ2 vs = wipe σ vs ∧ tt σ2 H2 fun b H3 =>
        if b = true then te σ2 H3 fun y H4 => ∃ acc, H4 D = some (.lst acc) ∧ acc.length < sizeLine ∧ Nx (upd H4 D (.lst (acc ++ [y]))) else Nx H3) := by
  refine lc_it (walk_list (K := K) (a := a) (xs := xs)) (fun i H' => H' D = some (.lst ((xs.take i).filter p)) ∧ Evl.Ex H1 H') ?_ (fun i H' _ h => ?_) ?_ ?_
  · exact ⟨upd_same, Evl.Ex.new hD⟩
  · exact Evl.ex_l h.2 hsq
  · rintro i x H H' hi ⟨h1, h3⟩ ⟨rfl, hx⟩
    have htk : xs.take (i + 1) = xs.take i ++ [x] := by rw [List.take_add_one, hx]; rfl
    refine hel i x hx H' h3 (by rw [h1]; exact fun e => by cases e) _ _ (fun hp H2 e2 => ?_) (fun hp H2 e2 => ?_)
    · refine ⟨_, e2 _ _ h1, ?_, ?_, Evl.Ex.mut (h3.trans e2) hD⟩
      · have := List.length_filter_le p (xs.take i)
        rw [List.length_take] at this
        rw [sizeLine_eq]
        omega
      · rw [upd_same, htk, List.filter_append, List.filter_cons_of_pos hp, List.filter_nil]
    · refine ⟨?_, h3.trans e2⟩
      rw [htk, List.filter_append, List.filter_cons_of_neg (by rw [hp]; decide), List.filter_nil, List.append_nil]
      exact e2 _ _ h1
  · rintro H' ⟨h1, h3⟩
    rw [List.take_length] at h1
    exact q H' h3 h1
end WP

set_option Elab.async false
set_option linter.all false
set_option maxRecDepth 100000
set_option maxHeartbeats 1000000
/-! dicts whose keys are tuples of texts: sorted(d) -/
namespace WP
open PySem PySem.Spec PyProof.Rows L2
/-! ### the order of tuples of texts -/
def codesOf (zs : List Str) : List (List Nat) := zs.map fun z => z.cps.toList
def lexS (x y : List Str) : Bool := decide (codesOf x < codesOf y)
theorem str_codes {a b : Str} (h : a.cps.toList = b.cps.toList) : a = b := by
  obtain ⟨⟨x⟩⟩ := a
  obtain ⟨⟨y⟩⟩ := b
  cases h
  rfl
theorem codes_inj : ∀ {x y : List Str}, codesOf x = codesOf y → x = y
  | [], [], _ => rfl
  | [], _ :: _, h => by simp [codesOf] at h
  | _ :: _, [], h => by simp [codesOf] at h
  | a :: x, b :: y, h => by
    simp only [codesOf, List.map_cons, List.cons.injEq] at h
    rw [str_codes h.1, codes_inj (x := x) (y := y) h.2]
theorem nat_lists_asymm {a b : List Nat} (h : a < b) : ¬ b < a := List.lt_asymm h
theorem nat_lists_le {a b c : List Nat} (h1 : ¬ b < a) (h2 : ¬ c < b) : ¬ c < a := List.le_trans (show a ≤ b from h1) (show b ≤ c from h2)
theorem lists_asymm : ∀ {a b : List (List Nat)}, a < b → ¬ b < a
  | _, [], h, _ => by cases h
  | [], _ :: _, _, h => by cases h
  | a :: x, b :: y, h, k => by
    rcases List.cons_lt_cons_iff.mp h with h1 | ⟨e, h1⟩
    · rcases List.cons_lt_cons_iff.mp k with k1 | ⟨e, k1⟩
      · exact nat_lists_asymm h1 k1
      · rw [e] at h1
        exact nat_lists_asymm h1 h1
    · rcases List.cons_lt_cons_iff.mp k with k1 | ⟨_, k1⟩
      · rw [e] at k1
        exact nat_lists_asymm k1 k1
      · exact lists_asymm h1 k1
theorem nat_lists_tri {a b : List Nat} (h1 : ¬ a < b) (h2 : ¬ b < a) : a = b := List.le_antisymm (show a ≤ b from h2) (show b ≤ a from h1)
theorem lists_le : ∀ {a b c : List (List Nat)}, ¬ b < a → ¬ c < b → ¬ c < a
  | [], _, _, _, _, h => by cases h
  | _ :: _, [], _, h, _, _ => h (List.nil_lt_cons _ _)
  | _ :: _, _ :: _, [], _, h, _ => h (List.nil_lt_cons _ _)
  | a :: x, b :: y, c :: z, h1, h2, h => by
    rw [List.cons_lt_cons_iff] at h1 h2 h
    have n1 : ¬ b < a := fun k => h1 (.inl k)
    have n2 : ¬ c < b := fun k => h2 (.inl k)
    rcases h with h | ⟨rfl, h⟩
    · exact nat_lists_le n1 n2 h
    · have e : b = c := nat_lists_tri n1 n2
      subst e
      exact lists_le (fun k => h1 (.inr ⟨rfl, k⟩)) (fun k => h2 (.inr ⟨rfl, k⟩)) h
theorem swo_lexS {α : Type} (k : α → List Str) : SrtO.Swo fun v u => lexS (k v) (k u) :=
  ⟨fun x y h => decide_eq_false (lists_asymm (of_decide_eq_true h)), fun x y z h1 h2 => decide_eq_false (lists_le (of_decide_eq_false h1) (of_decide_eq_false h2))⟩
theorem lexS_cons {a b : Str} {x y : List Str} : lexS (a :: x) (b :: y) = if (a == b) = true then lexS x y else decide (a.cps.toList < b.cps.toList) := by
  unfold lexS codesOf
  rw [List.map_cons, List.map_cons]
  by_cases e : a = b
  · subst e
    rw [if_pos (beq_self_eq_true _)]
    exact decide_eq_decide.mpr ⟨fun h => (List.cons_lt_cons_iff.mp h).elim (fun k => absurd k (nat_lists_asymm k)) (·.2), fun h => List.cons_lt_cons_iff.mpr (.inr ⟨rfl, h⟩)⟩
  · rw [if_neg (by simpa using e)]
    exact decide_eq_decide.mpr ⟨fun h => (List.cons_lt_cons_iff.mp h).elim id (fun k => absurd (str_codes k.1) e), fun h => List.cons_lt_cons_iff.mpr (.inl h)⟩
/-! ### the items of such a sort -/
/-- v is a tuple of these texts -/
def IsTx (h : Heap) (v : Value) (zs : List Str) : Prop := ∃ (a : Addr) (o : Obj) (its : Array Value) (n : Nat), v = .ref a ∧ h.get? a = some o ∧ o.cls = .type "tuple" ∧ o.data = .seq its n ∧ StrsAre its.toList zs
section
variable {prog : Program} {w : World} {A : Around} {E : Value → Shared → Prop} {s : Shared}
theorem tx_lex {Q : Bool → Shared → Prop} : ∀ {us vs : List Value} {zs ts : List Str} (i : Nat) {fin : Bool}, StrsAre us zs → StrsAre vs ts → fin = decide (us.length < vs.length) → Q (lexS zs ts) s → PySem.W.KatLex prog w A true fin Q (us.zip vs) i s
  | _, _, _, _, _, _, .nil, .nil, e, h => PySem.W.kat_nil (by rw [e]; exact h)
  | _, _, _, _, _, _, .nil, .cons _ _ _, e, h => PySem.W.kat_nil (by rw [e]; exact h)
  | _, _, _, _, _, _, .cons _ _ _, .nil, e, h => PySem.W.kat_nil (by rw [e]; exact h)
  | _, _, _, _, i, fin, .cons a t r, .cons b u r', e, h => by
    rw [lexS_cons] at h
    rw [List.zip_cons_cons]
    refine PySem.W.kat_cons (SeqAt.EqAt.str_str a t b u prog w _ _ (PySem.W.kat_go (fun q => ?_) fun q => ?_))
    · rw [if_pos q] at h
      exact PySem.W.kat_yes (tx_lex (i + 1) r r' (by rw [e]; simp only [List.length_cons, Nat.add_lt_add_iff_right]) h)
    · rw [if_neg (by rw [q]; exact Bool.false_ne_true)] at h
      refine PySem.W.kat_no ?_
      cases (true && i == 0) with
      | true => exact PyProof.Rows.oneLt_str h
      | false => exact PySem.W.kat_one _ _ (PyProof.Rows.lt_str h)
theorem tx_cmp {vs : List Value} {k : Value → List Str} (hv : ∀ v ∈ vs, IsTx s.heap v (k v)) : SrtO.Cmp prog w A s (tuples' true) (fun p => p.1 ∈ vs) (SrtO.lt2 fun v u => lexS (k v) (k u)) := fun p q hp hq => by
  obtain ⟨a, o, its, n, e1, h1, -, d1, s1⟩ := hv _ hp
  obtain ⟨b, o', its', n', e2, h2, -, d2, s2⟩ := hv _ hq
  show wpAny (model prog w) A (keyLt' (tuples' true) p.1 q.1) (fun r s' => s' = s ∧ r = lexS (k p.1) (k q.1)) (fun _ _ => False) s
  rw [e1] at s1 ⊢
  rw [e2] at s2 ⊢
  exact PySem.W.kat_lt h1 d1 h2 d2 (tx_lex 0 s1 s2 (by rw [Array.length_toList, Array.length_toList]) ⟨rfl, rfl⟩)
theorem tx_firsts {h : Heap} : ∀ {vs : List Value} {k : Value → List Str}, (∀ v ∈ vs, IsTx h v (k v) ∧ k v ≠ []) → ∃ fs : List Value, PySem.W.KatTups h vs fs ∧ fs.length = vs.length ∧ ∀ f ∈ fs, ∃ z t, f = Value.str z t
  | [], _, _ => ⟨[], .nil, rfl, fun _ z => nomatch z⟩
  | v :: vs, k, hv => by
    obtain ⟨fs, h1, h2, h3⟩ := tx_firsts fun u hu => hv u (List.mem_cons_of_mem _ hu)
    obtain ⟨⟨a, o, its, n, e, g, c, d, st⟩, ne⟩ := hv v (List.mem_cons_self ..)
    obtain ⟨l⟩ := its
    generalize k v = zs at st ne
    cases st with
    | nil => exact absurd rfl ne
    | cons z t r =>
      rw [e]
      exact ⟨.str z t :: fs, .cons g c d rfl h1, by simp [h2], fun f hf => by
        rcases List.mem_cons.mp hf with rfl | hf
        · exact ⟨z, t, rfl⟩
        · exact h3 f hf⟩
theorem tx_sortable {a : Addr} {vs : List Value} {k : Value → List Str} (h2 : 2 ≤ vs.length) (hv : ∀ v ∈ vs, IsTx s.heap v (k v) ∧ k v ≠ []) (ha : ∀ v ∈ vs, v ≠ .ref a) : SrtO.SortableO prog w A s a vs fun v u => lexS (k v) (k u) := fun h' keep => by
  have hv' : ∀ v ∈ vs, IsTx h' v (k v) ∧ k v ≠ [] := fun v hm => by
    obtain ⟨⟨b, o, its, n, e, g, r⟩, ne⟩ := hv v hm
    exact ⟨⟨b, o, its, n, e, keep b o (fun z => ha v hm (by rw [e, z])) g, r⟩, ne⟩
  obtain ⟨fs, h1, hl, h3⟩ := tx_firsts hv'
  refine ⟨tuples' true, fun Q E hq => ?_, tx_cmp fun v hm => (hv' v hm).1⟩
  refine PySem.W.kat_kind (T := .type "str") h1 (by omega) (fun f hm => ?_) (by rfl) ?_
  · obtain ⟨z, t, rfl⟩ := h3 f hm
    exact PySem.W.Looks.now
  · rw [show (Value.type "str" != Value.type "tuple") = true from by decide +kernel]
    exact hq
end
/-! ### sorted(d) -/
/-- the key tuples of d, by ascending texts -/
def rSortedTx : List V → Hp → VK → Prop := fun xs H Q => ∃ (d : Addr) (kvs : List (List L2.Key × V)) (zs : List (List Str)), xs = [.ref d] ∧ Rd H d (.dT kvs) ∧ kvs.map (·.1) = zs.map (·.map Sum.inr) ∧ (∀ z ∈ zs, z ≠ []) ∧
  ∀ (p : Addr) (bs : List Addr) (ts : List (List Str)), H p = none → Paired (fun b t => H b = some (.tup (t.map V.str))) bs ts → ts.Perm zs → ts.Pairwise (fun x y => lexS y x = false) → Q (.ref p) (upd H p (.lst (bs.map V.ref)))
def adT : Value → Addr
  | .ref a => a
  | _ => 0
theorem vals_texts : ∀ {zs : List Str} {us : List Value}, Vals (zs.map V.str) us → StrsAre us zs
  | [], _, .nil => .nil
  | z :: zs, _, .cons r q => by
    obtain ⟨t, rfl⟩ := r
    exact .cons z t (vals_texts q)
section
variable {X : Cx} {pins : List (Addr × Obj)} {σ : L2.St} {H : Hp} {s : Shared}
theorem tup_isTx {b : Addr} {zs : List Str} (I : Inv X pins σ H s) (h : H b = some (.tup (zs.map V.str))) : IsTx s.heap (.ref b) zs := by
  obtain ⟨its, rv, ⟨o, g, c, n, d⟩, -⟩ := I.tuple (SqT.of h)
  exact ⟨b, o, its.toArray, n, rfl, g, c, d, by simpa using vals_texts rv⟩
end
open PySem.W in
/-- sorted(x) for what is walked: collected, laid as a list, sorted -/
theorem sorted_src {prog : Program} {w : World} {A : Around} {E : Value → Shared → Prop} {s : Shared} {T : String} {r d : Addr} {n : Nat} {P : Nat → Value → Prop} {OK : Heap → Prop} {ltv : Value → Value → Bool} {Q : Value → Shared → Prop} (K : KdlSrc prog w T r d n P OK) (hh : A.handled = none) (hok : OK s.heap) (hn : n ≤ sizeLine) (O : SrtO.Swo ltv)
    (can : ∀ (acc : Array Value) (h1 : Heap) (a : Addr) (tk : Nat), ItemsOf P acc n → 2 ≤ n → (∀ b o, s.heap.get? b = some o → b ≠ a ∧ h1.get? b = some o) → SrtO.SortableO prog w A.in1.in1 { s with heap := h1, toks := tk } a acc.toList ltv)
    (h : ∀ (acc : Array Value) (out : List Value) (h0 h1 : Heap) (tk : Nat), ItemsOf P acc n → SrtO.Srtd ltv out → SrtO.Stb ltv out acc.toList → (∀ b o, s.heap.get? b = some o → h0.get? b = some o) → (∀ b o, h0.get? b = some o → h1.get? b = some o) → (∃ m, h1.get? h0.objs.size = some (seqObj "list" out.toArray m)) → Q (.ref h0.objs.size) { s with heap := h1, toks := tk }) :
    wpAny (model prog w) A (call (.builtin "sorted") [.ref r]) Q E s := by
  refine Calls.call_function_entry kind_sorted plain_sorted entry_sorted (args_sorted1 _) ?_
  unfold Builtin.«sorted»
  refine wpAny_bind (m := checkCount "sorted" 1 1 _) (wpAny_pure (wpAny_bind (kdu_collect (A := A.in1) K hh hok hn fun h' tk acc up it => ?_)))
  have many : acc.toList.length = n := by rw [Array.length_toList]; exact it.1
  refine wpAny_bind (wpAny_newList ?_ (by rw [many]; exact hn))
  have at1 : (h'.push (seqObj "list" acc.toList.toArray 0)).get? h'.objs.size = some (seqObj "list" acc.toList.toArray 0) := Heap.get?_push_size _ rfl
  refine wpAny_bind (wpAny_holding (wpAny_call_entry slot_list_sort ⟨_, at1, rfl⟩ entry_list_sort
    (SrtO.list_sort_ord (s := { s with heap := h'.push (seqObj "list" acc.toList.toArray 0), toks := tk }) O at1 (by rw [many]; exact hn) (fun h2 => can acc _ _ tk it (by omega) fun b o e => ⟨Nat.ne_of_lt (Heap.lt_size (up b o e)), Heap.get?_push_of_some _ (up b o e)⟩) fun out srt stb => ⟨_, rfl, ?_⟩) (args_list_sort _)))
  refine wpAny_pure ⟨_, rfl, h acc out h' _ tk it srt stb up (fun b o e => ?_) (sortedHeap_at (vs := acc.toList) (out := out.toArray) at1)⟩
  rw [sortedHeap_old (Nat.ne_of_lt (Heap.lt_size e)) (by rw [size_push']; exact Nat.lt_succ_of_lt (Heap.lt_size e))]
  exact Heap.get?_push_of_some _ e
/-- the texts of a tracked tuple -/
def textV : V → Str
  | .str z => z
  | _ => ⟨#[]⟩
def textsAt (H : Hp) (v : Value) : List Str := match H (adT v) with
  | some (.tup xs) => xs.map textV
  | _ => []
theorem textsAt_eq {H : Hp} {b : Addr} {zs : List Str} (h : H b = some (.tup (zs.map V.str))) : textsAt H (.ref b) = zs := by
  unfold textsAt adT
  rw [h]
  show (zs.map V.str).map textV = zs
  rw [List.map_map]
  exact (List.map_congr_left fun _ _ => rfl).trans (List.map_id zs)
theorem keys_texts {H : Hp} : ∀ {kvs : List (List L2.Key × V)} {bs : List Addr} {zs : List (List Str)}, IsKeys H kvs bs → kvs.map (·.1) = zs.map (·.map Sum.inr) → Paired (fun b t => H b = some (.tup (t.map V.str))) bs zs
  | [], _, [], .nil, _ => .nil
  | [], _, _ :: _, _, h => by simp at h
  | _ :: _, _, [], _, h => by simp at h
  | p :: kvs, b :: bs, z :: zs, .cons h r, e => by
    rw [List.map_cons, List.map_cons, List.cons.injEq] at e
    refine .cons ?_ (keys_texts r e.2)
    rw [e.1, List.map_map] at h
    exact h
theorem paired_texts {H : Hp} : ∀ {bs : List Addr} {zs : List (List Str)}, Paired (fun b t => H b = some (.tup (t.map V.str))) bs zs → bs.map (fun b => textsAt H (.ref b)) = zs ∧ ∀ b ∈ bs, H b = some (.tup ((textsAt H (.ref b)).map V.str))
  | _, _, .nil => ⟨rfl, fun _ h => nomatch h⟩
  | b :: bs, z :: zs, .cons h r => by
    obtain ⟨e, k⟩ := paired_texts r
    have eb := textsAt_eq h
    refine ⟨by rw [List.map_cons, eb, e], fun c hc => ?_⟩
    rcases List.mem_cons.mp hc with rfl | hc
    · rw [eb]
      exact h
    · exact k c hc
theorem paired_of {H : Hp} : ∀ {bs : List Addr}, (∀ b ∈ bs, H b = some (.tup ((textsAt H (.ref b)).map V.str))) → Paired (fun b t => H b = some (.tup (t.map V.str))) bs (bs.map fun b => textsAt H (.ref b))
  | [], _ => .nil
  | b :: bs, h => .cons (h b (List.mem_cons_self ..)) (paired_of fun c hc => h c (List.mem_cons_of_mem _ hc))
theorem refs_back : ∀ {out : List Value}, (∀ v ∈ out, ∃ b, v = Value.ref b) → out = (out.map adT).map Value.ref
  | [], _ => rfl
  | v :: out, h => by
    obtain ⟨b, rfl⟩ := h v (List.mem_cons_self ..)
    rw [List.map_cons, List.map_cons, ← refs_back fun u hu => h u (List.mem_cons_of_mem _ hu)]
    rfl
theorem cr_sortedTx {X : Cx} (hc : X.calm = true) : CallR X (.builtin "sorted") rSortedTx := by
  intro pins s σ H xs us Q I r h
  obtain ⟨d, kvs, zs, rfl, hd, hk, hne, q⟩ := h
  obtain ⟨u, rfl, rx⟩ := vals1 r
  cases rx
  obtain ⟨z, hs, ks, pr, o, es, ep, ho, hx, hdt, he, hn⟩ := (show ObjOk X.prog X.w H s.heap d (.dT kvs) from hd.ok I.hok)
  have l1 : es.size = ks.length := size_of_entries he
  have l2 : kvs.length = ks.length := Paired.length pr
  have at_ : Paired (fun b t => H b = some (.tup (t.map V.str))) (ks.map fun x => x.2.1) zs := keys_texts (isKeys_of pr) hk
  obtain ⟨ez, tx⟩ := paired_texts at_
  -- what is collected: the keys, in order
  have items : ∀ acc : Array Value, ItemsOf (fun i v => ∃ en : DictEntry, es[i]? = some en ∧ v = en.key) acc es.size → acc.toList = (ks.map fun x => x.2.1).map Value.ref := fun acc it => by
    refine List.ext_getElem? fun j => ?_
    rw [List.map_map, List.getElem?_map]
    rcases e : acc.toList[j]? with _ | v
    · have h1 := List.getElem?_eq_none_iff.mp e
      rw [Array.length_toList, it.1, l1] at h1
      rw [List.getElem?_eq_none h1]
      rfl
    · obtain ⟨en, e1, rfl⟩ := it.2 j v (by rw [← Array.getElem?_toList]; exact e)
      have e2 := entry_at he j
      rw [e1] at e2
      rcases e3 : ks[j]? with _ | x
      · rw [e3] at e2
        exact nomatch (show some en = none from e2)
      · rw [e3] at e2
        rw [show en = entryOfKey (tupleKind (mixKind X.prog X.w)) x from Option.some.inj e2]
        rfl
  have good : ∀ v ∈ (ks.map fun x => x.2.1).map Value.ref, ∃ b, v = .ref b ∧ H b = some (.tup ((textsAt H (.ref b)).map V.str)) ∧ textsAt H v ≠ [] := fun v hv => by
    obtain ⟨b, hb, rfl⟩ := List.mem_map.mp hv
    exact ⟨b, rfl, tx b hb, hne _ (by rw [← ez]; exact List.mem_map_of_mem hb)⟩
  refine sorted_src (kdl_raw hs hx hdt) (I.ok.hd hc) ho (by omega) (swo_lexS (textsAt H)) (fun acc h1 a tk it h2 up => ?_) fun acc out h0 h1 tk it srt stb up0 up1 ⟨m, e1⟩ => ?_
  · refine tx_sortable (by rw [Array.length_toList, it.1]; exact h2) (fun v hv => ?_) fun v hv => ?_
    · rw [items acc it] at hv
      obtain ⟨b, rfl, e, ne⟩ := good v hv
      obtain ⟨b', o', its, n', e', g, r'⟩ := tup_isTx I e
      exact ⟨⟨b', o', its, n', e', (up b' o' g).2, r'⟩, ne⟩
    · rw [items acc it] at hv
      obtain ⟨b, rfl, e, ne⟩ := good v hv
      obtain ⟨b', o', its, n', e', g, r'⟩ := tup_isTx I e
      cases e'
      exact fun z => (up b o' g).1 (Value.ref.inj z)
  · rw [items acc it] at stb
    have mem : ∀ v ∈ out, ∃ b, v = .ref b ∧ H b = some (.tup ((textsAt H (.ref b)).map V.str)) := fun v hv => by
      obtain ⟨b, e, e', _⟩ := good v (stb.perm.mem_iff.mp hv)
      exact ⟨b, e, e'⟩
    have back := refs_back (out := out) fun v hv => let ⟨b, e, _⟩ := mem v hv; ⟨b, e⟩
    have pm : (out.map adT).Perm (ks.map fun x => x.2.1) := by
      have p := stb.perm.map adT
      rw [List.map_map] at p
      exact p.trans (by rw [show (adT ∘ Value.ref) = id from rfl, List.map_id])
    have tx' : ∀ b ∈ out.map adT, H b = some (.tup ((textsAt H (.ref b)).map V.str)) := fun b hb => tx b (pm.mem_iff.mp hb)
    have J : Inv X pins σ H { s with heap := h0, toks := tk } := I.kept up0
    have vals : Vals ((out.map adT).map V.ref) out := by
      have v := vals_refs (out.map adT)
      rw [← back] at v
      exact v
    refine ⟨.ref h0.objs.size, _, J.laid (t' := tk) (o := .lst ((out.map adT).map V.ref)) up1 (Nat.le_refl _) ⟨by rw [List.length_map, pm.length_eq, List.length_map]; omega, out, m, vals, e1⟩, rfl, q _ (out.map adT) _ (J.hok.fresh (Nat.le_refl _)) (paired_of tx') ?_ ?_⟩
    · rw [← ez]
      exact pm.map _
    · rw [List.pairwise_map]
      rw [back, SrtO.Srtd, List.pairwise_map] at srt
      exact srt
end WP

set_option Elab.async false
set_option linter.all false
set_option maxRecDepth 100000
set_option maxHeartbeats 1000000
/-! dict comprehensions whose keys are tuples of ints and texts -/
namespace WP
open PySem PySem.Spec PyProof.Rows L2
section
variable {X : Cx} {pins : List (Addr × Obj)} {σ : L2.St} {H H' : Hp} {s : Shared} {E : Value → Shared → Prop} {D : Addr} {y v : V} {u r : Value} {Q : Unit → Shared → Prop}
/-- the store of a comprehension, keys of any kind -/
theorem put_comp (hu : X.A.units < cLine) (I : Inv X pins σ H s) (g : DPut H D y v H') (ry : RelV y u) (rv : RelV v r) (h : ∀ s', Inv X pins σ H' s' → Q () s') : wpAny (model X.prog X.w) X.A (dictSet D u r) Q E s := by
  rcases g with ⟨kvs, k, hD, rfl, hz, rfl⟩ | ⟨kvs, k, b, hD, rfl, hb, hz, rfl⟩
  · exact d_dictSet I hD hz ry rv h
  · obtain rfl : u = Value.ref b := ry
    obtain ⟨z, nd, xs, rel, dd⟩ := dt_of I.hok hD
    have few : xs.length ≤ sizeLine := by rw [← Paired.length rel]; exact z
    refine wpAny_dictSet_heap (hsz := few) hu (key_of I.hok hb) dd fun h' ⟨o, es, ep, e1, e2, e3, e4, _, e5⟩ sb => h _ (d_write I (by rw [hD]; trivial) sb ⟨o, e1⟩ ?_)
    refine ⟨by have := length_putK kvs k v; omega, nd, _, (rel.put k hb rv).keeps fun c ys ec => ?_, o, es, ep, e1, e2, e3, e4, e5⟩
    rw [upd_ne fun q => by rw [q, hD] at ec; cases ec]
    exact ec
end
/-- {k: v for target in iter if ..}: o₀ is the new dict, at D -/
def tDcA (o₀ : HO) (wi : TI) (g : TG) (tt : TT) (tk tv : TE) (vs : List Nat) : TE := fun σ H Q => wi σ H fun J H1 => ∀ D, H1 D = none → ∃ W : Nat → Nat → Hp → Prop, (∃ m, W 0 m (upd H1 D o₀)) ∧ ∀ i m H, W i m H →
  (J.stop i H ∧ Q (.ref D) H) ∨ (J.go i H ∧ ∃ Nx : Hp → Prop, (∀ H', Nx H' → ∃ m', m' < m ∧ W (i + 1) m' H') ∧ ∀ x H', J.yld i H x H' → g x (wipe σ vs) H' fun σ2 H2 => wipe σ2 vs = wipe σ vs ∧ tt σ2 H2 fun b H3 =>
    if b = true then tk σ2 H3 fun y H4 => tv σ2 H4 fun z H5 => ∃ H6, DPut H5 D y z H6 ∧ Nx H6 else Nx H3)
/-- a block's state between two turns -/
structure Between (Y : Cx) (τ : L2.St) (fp : List Addr) (tn : Nat → Heap → Prop) (i : Nat) (H : Hp) (s : Shared) : Prop where
  inv : Inv Y [] τ H s
  at_ : tn i s.heap
  off : ∀ b ∈ fp, H b = none
theorem Between.fp {Y : Cx} {τ : L2.St} {fp : List Addr} {tn : Nat → Heap → Prop} {i : Nat} {H : Hp} {s : Shared} (h : Between Y τ fp tn i H s) (hx : Y.ex = fp) (hp : Y.pn = []) {H' : Hp} (off : ∀ b ∈ fp, H' b = none) : ∀ b ∈ fp, FpOk Y [] H' b := fun b hb => by
  have m : b ∈ Y.ex := by rw [hx]; exact hb
  exact ⟨off b hb, (h.inv.ok.exf b m).1, h.inv.ok.exfs b m, .inl m, (h.inv.ok.exf b m).2, fun p q => by rw [hp] at q; cases q⟩
/-- one turn -/
theorem Between.turn {Y : Cx} {τ : L2.St} {fp : List Addr} {tn : Nat → Heap → Prop} {i : Nat} {H : Hp} {s : Shared} {J : It} {it D : Addr} {tg kx vx : Expr} {ifs : List Expr} {g : TG} {tt : TT} {tk tv : TE} {vs : List Nat} {Nx : Hp → Prop} {E : Value → Shared → Prop}
    (h : Between Y τ fp tn i H s) (hx : Y.ex = fp) (hp : Y.pn = []) (no : Y.xe = fun _ _ => False) (hc : Y.calm = true) (hu : Y.A.units < cLine) (T : Turn Y.prog Y.w Y.K tg J fp it tn) (pg : PG Y tg g) (pt : PTs Y ifs tt) (pk : PE Y kx tk) (pv : PE Y vx tv) (go : J.go i H)
    (step : ∀ x H', J.yld i H x H' → g x τ H' fun σ2 H2 => wipe σ2 vs = τ ∧ tt σ2 H2 fun b H3 => if b = true then tk σ2 H3 fun y H4 => tv σ2 H4 fun z H5 => ∃ H6, DPut H5 D y z H6 ∧ Nx H6 else Nx H3)
    {Back : Shared → Prop} (back : ∀ s' H', Between Y τ fp tn (i + 1) H' s' → Nx H' → Back s') :
    wpAny (model Y.prog Y.w) Y.A (pyNext (.ref it)) (fun r s₁ => ∃ v, r = some v ∧ wpAny (model Y.prog Y.w) Y.A (letOwnedTupleGo tg (.ref it) v) (fun _ s₁' => wpAny (model Y.prog Y.w) Y.A (assign tg Y.env v) (fun _ s₂ =>
      wpAny (model Y.prog Y.w) Y.A (forIn ifs true fun c r => if r = true then do let ok ← isTrue c Y.env (eval c Y.env); pure (ForInStep.yield ok) else pure (ForInStep.yield r)) (fun ok s₃ =>
        if ok = true then wpAny (model Y.prog Y.w) Y.A (eval kx Y.env) (fun kv s₄ => wpAny (model Y.prog Y.w) Y.A (eval vx Y.env) (fun vv s₅ => wpAny (model Y.prog Y.w) Y.A (dictSet D kv vv) (fun _ s₆ => Back s₆) E s₅) E s₄) E s₃ else Back s₃) E s₂) E s₁') E s₁) E s := by
  have quiet : ∀ {α : Type} {t : Sem α} {P P' : α → Shared → Prop} {s : Shared}, wpAny (model Y.prog Y.w) Y.A t P Y.xe s → (∀ a s, P a s → P' a s) → wpAny (model Y.prog Y.w) Y.A t P' E s := fun w k => wpAny_mono w k fun e s z => by rw [no] at z; exact z.elim
  refine wpAny_mono (T.item Y rfl rfl rfl hc i [] s τ H E h.inv (h.fp hx hp h.off) h.at_ go) (fun r s1 ⟨u, e, w⟩ => ⟨u, e, wpAny_mono w (fun _ s2 ⟨x, H2, I2, rx, y2, at2, off2⟩ => ?_) fun _ _ z => z⟩) fun _ _ z => z
  have P2 := I2.pinned (h.fp hx hp off2) (T.obj _ _ at2)
  -- from any later state of this turn on to the next one
  have fin : ∀ {σ' : L2.St} {H' : Hp} {s' : Shared}, wipe σ' vs = τ → Inv Y ([] ++ pinsAt fp s2.heap) σ' H' s' → Nx H' → Back s' := fun {σ' H' s'} ew J nx => by
    have held : ∀ b ∈ fp, ∀ o, s2.heap.get? b = some o → s'.heap.get? b = some o ∧ H' b = none := fun b hb o e => by
      have q := J.pin (b, o) (List.mem_append_right _ (List.mem_append_right _ (mem_pinsAt hb e)))
      exact ⟨q.1, q.2.1⟩
    refine back s' H' ⟨J.unpinned.weak (by rw [← ew, wipe_length]) fun j v e => ?_, T.keep _ _ _ at2 fun b hb o e => (held b hb o e).1, fun b hb => ?_⟩ nx
    · rw [← ew] at e
      exact (wipe_some e).1
    · obtain ⟨o, e, -⟩ := T.obj _ _ at2 b hb
      exact (held b hb o e).2
  refine quiet (pg.run _ s2 τ H2 x u _ P2 rx (step x H2 y2)) fun _ s3 ⟨σ3, H3, I3, ew, q3⟩ => quiet (pt.run _ s3 σ3 H3 _ I3 q3) fun b s4 ⟨H4, I4, q4⟩ => ?_
  cases b with
  | false => exact fin ew I4 q4
  | true => exact quiet (pk.run _ s4 σ3 H4 _ I4 q4) fun kv s5 ⟨y, H5, I5, ry, q5⟩ => quiet (pv.run _ s5 σ3 H5 _ I5 q5) fun vv s6 ⟨z, H6, I6, rz, H7, put, nx⟩ => put_comp hu I6 put ry rz fun s7 I7 => fin ew I7 nx
section
variable {X : Cx} {o₀ : HO}
/-- what may stand as a new dict -/
def EmptyD (o₀ : HO) : Prop := ∀ {P : Program} {w : World} {H : Hp} (h : Heap), sysModules < h.objs.size → ObjOk P w H (h.push { cls := .type "dict", data := .dict #[] }) h.objs.size o₀
theorem empty_k : EmptyD (.dK []) := fun h hb => dk_empty h hb
theorem empty_t : EmptyD (.dT []) := fun h hb => dt_empty h hb
theorem pe_dcA {kx vx tg iter : Expr} {ifs : List Expr} {scope : Scope} {own : List (Str × Nat)} {pos : Pos} {wi : TI} {g : TG} {tt : TT} {tk tv : TE} (h0 : EmptyD o₀) (hc : X.calm = true) (hu : X.A.units < cLine) (hN : X.N.Nodup) (hi : PI X tg iter wi) (ok : BlkOk X.N X.env.scope scope own)
    (hg : ∀ (s : Shared) (H : Hp) (C : Addr) (cl : List (Str × Addr)) (fp : List Addr), PG (X.blk s H scope (compEnvC scope cl C X.env) fp) tg g) (ht : ∀ (s : Shared) (H : Hp) (C : Addr) (cl : List (Str × Addr)) (fp : List Addr), PTs (X.blk s H scope (compEnvC scope cl C X.env) fp) ifs tt)
    (hk : ∀ (s : Shared) (H : Hp) (C : Addr) (cl : List (Str × Addr)) (fp : List Addr), PE (X.blk s H scope (compEnvC scope cl C X.env) fp) kx tk)
    (he : ∀ (s : Shared) (H : Hp) (C : Addr) (cl : List (Str × Addr)) (fp : List Addr), PE (X.blk s H scope (compEnvC scope cl C X.env) fp) vx tv) (hs : ∀ x, foldedSetIterable iter X.env x = pure x := by intro _; rfl) :
    PE X (.DictComp kx vx [⟨tg, iter, ifs, 0⟩] scope pos) (tDcA o₀ wi g tt tk tv (own.map (·.2))) := by
  constructor
  intro pins s σ H Q I h
  rw [arm_eval_DictComp]
  have cells : ∀ y ∈ scope.names, y.2 = .free → ∃ c, X.env.cells.lookup y.1 = some c := fun y hy e => (ok.free y hy e).elim (fun k => I.ok.has _ (.inl k)) fun k => I.ok.has _ (.inr k)
  refine wpAny_comprehension_free (use := none) rfl hs (closure_ok cells) ok.kind (fun y hy e => by rw [ok.uniq y hy, e]) (thn (hi.run pins s σ H _ I h) fun xv s1 w1 => thn w1 fun itv s2 ⟨it, fp, tn, J, H2, e2, I2, T, at2, fp2, q⟩ => ?_)
  subst e2
  -- the dict is laid, then the block's frame
  refine wpAny_newObj_type (newEnv_comp ?_)
  obtain ⟨W, ⟨m0, w0⟩, turn⟩ := q s2.heap.objs.size (I2.hok.fresh (Nat.le_refl _))
  have I3 : Inv X pins σ (upd H2 s2.heap.objs.size o₀) ({ s2 with heap := s2.heap.push { cls := .type "dict", data := .dict #[] } } : Shared) := I2.laid (t' := s2.toks) (fun b o e => Heap.get?_push_of_some _ e) (Nat.le_refl _) (h0 _ I2.big)
  have old : ∀ b ∈ fp, b < s2.heap.objs.size := fun b hb => let ⟨o, e, _⟩ := T.obj _ _ at2 b hb; Heap.lt_size e
  have fp3 : ∀ b ∈ fp, FpOk X pins (upd H2 s2.heap.objs.size o₀) b := fun b hb => ⟨by rw [upd_ne (Nat.ne_of_lt (old b hb))]; exact (fp2 b hb).1, (fp2 b hb).2⟩
  have lt3 : ∀ b ∈ fp, b < ({ s2 with heap := s2.heap.push { cls := .type "dict", data := .dict #[] } } : Shared).heap.objs.size := fun b hb => by
    show b < (s2.heap.push _).objs.size
    rw [Heap.size_push]
    exact Nat.lt_succ_of_lt (old b hb)
  have at3 : tn 0 ({ s2 with heap := s2.heap.push { cls := .type "dict", data := .dict #[] } } : Shared).heap := T.keep _ _ _ at2 fun b _ o e => Heap.get?_push_of_some _ e
  show codeAny _ _ (.compStart (.DictComp kx vx [⟨tg, iter, ifs, 0⟩] scope pos) 0 (.ref it) (.ref s2.heap.objs.size) (compEnvC scope (cellsFrom (({ s2 with heap := s2.heap.push { cls := .type "dict", data := .dict #[] } } : Shared).heap.objs.size + 1) scope.names (cloFrom X.env.cells scope.names [])) ({ s2 with heap := s2.heap.push { cls := .type "dict", data := .dict #[] } } : Shared).heap.objs.size X.env))
    (compPost (model X.prog X.w) X.A X.xe none (EP X pins σ Q) (.ref s2.heap.objs.size) ({ s2 with heap := s2.heap.push { cls := .type "dict", data := .dict #[] } } : Shared).heap.objs.size)
    { ({ s2 with heap := s2.heap.push { cls := .type "dict", data := .dict #[] } } : Shared) with heap := pushCells (({ s2 with heap := s2.heap.push { cls := .type "dict", data := .dict #[] } } : Shared).heap.push { cls := .type "dict", data := .dict #[] }) scope.names }
  generalize ({ s2 with heap := s2.heap.push { cls := .type "dict", data := .dict #[] } } : Shared) = s3 at I3 lt3 at3 ⊢
  generalize upd H2 s2.heap.objs.size o₀ = H3 at w0 I3 fp3
  have B0 : Between (X.blk s3 H3 scope (compEnvC scope (cellsFrom (s3.heap.objs.size + 1) scope.names (cloFrom X.env.cells scope.names [])) s3.heap.objs.size X.env) fp) (wipe σ (own.map (·.2))) fp tn 0 H3 { s3 with heap := pushCells (s3.heap.push { cls := .type "dict", data := .dict #[] }) scope.names } :=
    ⟨block_start I3 ok hN fun b hb => ⟨fp3 b hb, lt3 b hb⟩, T.keep _ _ _ at3 fun b _ o e => pushCells_keeps _ _ _ _ (Heap.get?_push_of_some _ e), fun b hb => (fp3 b hb).1⟩
  have loop : codeAny (model X.prog X.w) X.A (.compLoop (.DictComp kx vx [⟨tg, iter, ifs, 0⟩] scope pos) 0 (.ref it) (.ref s2.heap.objs.size) (compEnvC scope (cellsFrom (s3.heap.objs.size + 1) scope.names (cloFrom X.env.cells scope.names [])) s3.heap.objs.size X.env))
      (compPost (model X.prog X.w) X.A X.xe none (EP X pins σ Q) (.ref s2.heap.objs.size) s3.heap.objs.size) { s3 with heap := pushCells (s3.heap.push { cls := .type "dict", data := .dict #[] }) scope.names } := by
    refine compLoop_anyD (fun n s' => ∃ i H', Between (X.blk s3 H3 scope (compEnvC scope (cellsFrom (s3.heap.objs.size + 1) scope.names (cloFrom X.env.cells scope.names [])) s3.heap.objs.size X.env) fp) (wipe σ (own.map (·.2))) fp tn i H' s' ∧ W i n H') (fun n s5 ⟨i, H5, B, w5⟩ => ?_) m0 ⟨0, H3, B0, w0⟩
    rcases turn i n H5 w5 with ⟨stop, qq⟩ | ⟨go, Nx, down, step⟩
    · refine thnF (T.done (X.blk s3 H3 scope (compEnvC scope (cellsFrom (s3.heap.objs.size + 1) scope.names (cloFrom X.env.cells scope.names [])) s3.heap.objs.size X.env) fp) rfl rfl rfl hc i [] s5 _ H5 (fun _ _ => False) B.inv (B.fp rfl rfl B.off) B.at_ stop) fun r s6 ⟨hr, I6⟩ => ?_
      subst hr
      have I7 : Inv X pins σ H5 s6 := I3.call' (ch := fp) I6.os I6.base I6.hok I6.bare fun b hb => let f := (fp3 b hb).2; ⟨f.2.2.1, f.1, f.2.2.2.1, f.2.2.2.2⟩
      obtain ⟨m, ns, -⟩ := I6.loc
      obtain ⟨c0, c1, -, c3, c4, c5⟩ := I3.fpOk (Nat.le_refl _) (show H5 s3.heap.objs.size = none from I6.free)
      exact ⟨m, ns, fun h'' sb => ⟨.ref s2.heap.objs.size, H5, I7.turned (t' := s6.toks) (fun b o hb e => (sb.2 b hb).trans e) c0 c1 c3 c4 c5, rfl, qq⟩⟩
    · exact wpAny_mono (B.turn (D := s2.heap.objs.size) (Back := fun s' => ∃ m, m < n ∧ ∃ i H', Between (X.blk s3 H3 scope (compEnvC scope (cellsFrom (s3.heap.objs.size + 1) scope.names (cloFrom X.env.cells scope.names [])) s3.heap.objs.size X.env) fp) (wipe σ (own.map (·.2))) fp tn i H' s' ∧ W i m H') rfl rfl rfl hc hu T (hg _ _ _ _ _) (ht _ _ _ _ _) (hk _ _ _ _ _) (he _ _ _ _ _) go step fun s' H' B' nx => let ⟨m', lt, w'⟩ := down H' nx; ⟨m', lt, i + 1, H', B', w'⟩)
        (fun r s1 ⟨v, e, w⟩ => by subst e; exact w) fun _ _ z => z
  exact codeAny_compStart_dict loop (T.self X.A 0 _ _ _ B0.at_ loop)
end
end WP

set_option Elab.async false
set_option linter.all false
set_option maxRecDepth 100000
set_option maxHeartbeats 1000000
/-! classes made with keywords, isinstance of a caught error with fields, dict comprehensions over lists -/
namespace WP
open PySem PySem.Spec PyProof.Rows L2
/-! ### defaults that stand at an address -/
def dflAd (p : Str × Option Str) (i : Nat) (K : PySem.W.Frag) : Addr := match K.lookup (He.fAd K p) with
  | some ⟨_, _, .func fd, _⟩ => (match fd.defaults with
    | .ref T => (match K.lookup T with
      | some ⟨_, _, .seq its _, _⟩ => (match its[i]? with
        | some (.ref a) => a
        | _ => 0)
      | _ => 0)
    | _ => 0)
  | _ => 0
section
variable {P : Program} {w : World} {K : PySem.W.Frag} {mg : Str → Option Value} {base : Heap}
/-- a method with one positional default -/
structure AtMD (K : PySem.W.Frag) (C : Addr) (m qual : Str) (st : Stmt) : Prop where
  ex : ∃ (f : Addr) (fd : FuncData) (dv : V) (kws : List (Str × V)), FunD K m qual (defArgs st) (defBody st) (defScope st) [dv] kws f fd ∧ Meth K C m f
/-- the class at C, made with n values and the keywords ks -/
structure CalCK (P : Program) (w : World) (K : PySem.W.Frag) (mg : Str → Option Value) (base : Heap) (CX : CXT) (k : Nat) (x : Str) (C : Addr) (sp : Sp) (n : Nat) (ks : List Str) : Prop where
  ex : ∃ (f : Addr) (fd : FuncData) (ps : List Str), FnOk P w K mg base CX k f fd ps sp ∧ Mk K C f ∧ mg x = some (.ref C) ∧ KBn K fd ps (n + 1) ks (fun us ws => us ++ ws) (fun vs zs => vs ++ zs)
theorem calCK_of {x : Str} {C : Addr} {qual : Str} {st : Stmt} {N ps : List Str} {k : Nat} {sp : Sp} (F : AtMD K C "__init__" qual st) (S : FnScope N ps (defScope st)) (len : ∀ vs H Q E, sp vs H Q E → vs.length = ps.length) (mk : ∃ f, Mk K C f) (hm : mg x = some (.ref C)) (n : Nat) (ks : List Str)
    (hb : ∀ (T : Addr) (kV doc pm : Value) (an : Option Addr) (cdv ct : Value) (us its ws : List Value), us.length = n + 1 → its.length = 1 → ws.length = ks.length →
      ∃ k, bindArgs (PySem.W.fnOf "__init__" qual (defArgs st) (defBody st) (defScope st) (.ref T) kV doc pm an cdv ct) ⟨us, ks.zip ws⟩ = seqItems? (.ref T) >>= k ∧ k (some its.toArray) = pure (ps.zip (us ++ ws)))
    (hbody : ∀ (f : Addr) (cdv : Value) (A : Around) (outer : List Env) (s : Shared) (H : Hp) (vs : List V) (Q : VK) (E : XK), Room k (A.deeper (envOfC qual (defScope st) s.heap.objs.size f cdv)) → sp vs H Q E →
      ∃ t, PSs (cxOf (L2.CX P w) P w K mg base N qual (defScope st) f cdv A outer s H E) (defBody st) t ∧ t { nx := fun _ H' => Q .non H', rt := Q } (start N vs) H) : CalCK P w K mg base (L2.CX P w) (k + 1) x C sp n ks := by
  obtain ⟨f, fd, dv, kws, F, m⟩ := F.ex
  obtain ⟨f', M⟩ := mk
  obtain rfl : f = f' := by
    have e := m.at_.symm.trans M.init
    cases e
    rfl
  refine ⟨f, fd, ps, F.ok S len fun cdv A outer s H vs Q E hr hsp => hbody f cdv A outer s H vs Q E hr hsp, M, hm, ?_⟩
  obtain ⟨its, b⟩ := F.kbindsD (n + 1) ks (fun us _ ws => us ++ ws) (by simp) (fun h1 _ h2 => Vals.app h1 h2) hb
  exact b
end
section
variable {X : Cx} {CX : CXT} {k j n : Nat} {C : Addr} {sp : Sp} {W : WX} {x : Str} {ks : List Str} {p pos : Pos} {e : Expr} {es : List Expr} {kws : List Keyword} {t tk : TA}
def tMakeKS (C : Addr) (n m : Nat) (sp : Sp) (W : WX) (t tk : TA) : TE := fun σ H Q => t σ H fun vs H1 => tk σ H1 fun zs H2 => vs.length = n ∧ zs.length = m ∧ ∀ x dx, H2 x = none → H2 dx = none → dx ≠ x →
  sp (.ref x :: (vs ++ zs)) (upd (upd H2 dx (.own x)) x (.ins C dx [])) (fun v H3 => v = .non ∧ Q (.ref x) H3) (WE W σ)
theorem r_makeKS {m : Nat} {σ : L2.St} {H : Hp} {Q : VK} (q : t σ H fun vs H1 => tk σ H1 fun zs H2 => vs.length = n ∧ zs.length = m ∧ ∀ x dx, H2 x = none → H2 dx = none → dx ≠ x →
  sp (.ref x :: (vs ++ zs)) (upd (upd H2 dx (.own x)) x (.ins C dx [])) (fun v H3 => v = .non ∧ Q (.ref x) H3) (WE W σ)) : tMakeKS C n m sp W t tk σ H Q := q
/-- C(e, .., k = v, ..) within a try -/
theorem pe_mkKS (c : CalCK X.prog X.w X.K X.mg X.base (L2.CX X.prog X.w) k x C sp n ks) (hr : Room j X.A) (hk : k + 1 ≤ j) (hg : Gl X x) (tk' : Takes X W) (ha : PA X (e :: es) t) (hkw : PK X kws tk)
    (hall : (backToKw pos (keywordEach kws X.env)).all (·.1.isSome) = true := by rfl) (hks : (backToKw pos (keywordEach kws X.env)).filterMap (·.1) = ks := by rfl) (hdb : (x == ("__debug__" : Str)) = false := by decide)
    (he : starEach (e :: es) X.env = (false, eval e X.env) :: starEach es X.env := by rfl) (hpl : ((backTo pos (starEach (e :: es) X.env)).any (·.1) || (backToKw pos (keywordEach kws X.env)).any (·.1.isNone)) = false := by rfl) :
    PE X (.Call (.Name x p) (e :: es) kws pos) (tMakeKS C n ks.length sp W t tk) := by
  obtain ⟨f, fd, ps, F, M, hm, hb⟩ := c.ex
  constructor
  intro pins s σ H Q I h
  refine wpAny_Call_Name_kw (ld_glob I hg hm (PySem.W.callWith_KW (h₀ := X.base) I.ok.mod.kin M.kp hall (thn (ha.run pos pins s σ H _ I h) fun us s1 ⟨vs, H1, I1, r, q⟩ => thn (hkw.run pos pins s1 σ H1 _ I1 q) fun ws s2 ⟨zs, H2, I2, rz, l1, l2, q2⟩ => ⟨I2.kIn, ?_⟩) hpl he) hdb)
  rw [hks]
  -- the instance and its dict are laid, then __init__ runs
  have J := Inv.made (C := C) I2
  have want := q2 (s2.heap.objs.size + 1) s2.heap.objs.size (I2.hok.fresh (Nat.le_add_right _ 1)) (I2.hok.fresh (Nat.le_refl _)) (Nat.ne_of_lt (Nat.lt_add_one _))
  have self : Vals (V.ref (s2.heap.objs.size + 1) :: vs) (Value.ref (s2.heap.objs.size + 1) :: us) := .cons rfl r
  have n1 : (Value.ref (s2.heap.objs.size + 1) :: us).length = n + 1 := by rw [← self.length, List.length_cons, l1]
  have ran := F.run _ X.stack _ _ ⟨Value.ref (s2.heap.objs.size + 1) :: us, ks.zip ws⟩ _ _ _ (WE W σ) ((hr.mono hk).make C us (ks.zip ws)) (J.env0.make C us (ks.zip ws)) (hb.to _ _ ws J.kIn n1 (rz.length.symm.trans l2)) (hb.rel self rz) want
  refine wpAny_call (make_map I2.kIn M.makes M.init (beq_iff_eq.mp M.fn) (codeAny_mono ran ?_))
  rintro (er | fl) s' out
  · exact passAt tk' σ pins _ _ er s' J out
  · cases fl <;> try exact out.elim
    obtain ⟨v, H', J', rv, rfl, q⟩ := J.after out
    exact ⟨rv, .ref (s2.heap.objs.size + 1), H', J', rfl, q⟩
end
/-! ### isinstance(e, C), e the error that the suite holds, with its fields -/
def rIsS (K : PySem.W.Frag) (a : Addr) (cls : Value) (d : Option Addr) : List V → Hp → VK → Prop := fun xs H Q => ∃ (D dd : Addr) (fs : List (Str × V)) (c : V) (u : Value) (b : Bool), cls = .ref D ∧ d = some dd ∧ xs = [.ref a, c] ∧ H dd = some (.xd fs) ∧ ExcC K D ∧ ClsV c u ∧ PySem.W.kitOne K (.ref D) u = some b ∧ Q (.bl b) H
theorem call_isS {X : Cx} (K : PySem.W.Frag) {a : Addr} {oe : Obj} {cls : Value} {d : Option Addr} {pn : List (Addr × Obj)} (hz : Zc cls d oe) (hf : ∃ vs, oe.data = .fields vs) (hK : X.K = K := by rfl) : CallR (X.suite a ((a, oe) :: pn)) (.builtin "isinstance") (rIsS K a cls d) := by
  subst hK
  intro pins s σ H xs us Q I r h
  obtain ⟨D, dd, fs, c, u, b, rfl, rfl, rfl, hd, C, k, e, q⟩ := h
  obtain ⟨u1, u2, rfl, r1, r2⟩ := vals2 r
  cases r1
  have e2 := k.eq r2
  subst e2
  obtain ⟨vs, hv⟩ := hf
  have at_ := (I.pin (a, oe) (List.mem_append_left _ (.head _))).1
  obtain ⟨mA, hns, -⟩ := (show ObjOk X.prog X.w H s.heap dd (.xd fs) from I.hok dd _ hd)
  obtain ⟨od, ho, -⟩ := lookIn_ns hns
  have J : PySem.W.InstAt s.heap a oe D (some od) := ⟨at_, hz.1, by unfold PySem.W.notCls; rw [hv] <;> rfl, by rw [hz.2]; exact ho⟩
  exact PySem.W.kia_one (kit_err C) I.kIn J e (fun z => nomatch z) fun tk => ⟨.bl b, H, I.tok tk, rfl, q⟩
/-! ### dict comprehensions over a list that stays -/
theorem dc_list {K : PySem.W.Frag} {a : Addr} {xs : List V} {g : TG} {tt : TT} {tk tv : TE} {vs : List Nat} {σ : L2.St} {H1 : Hp} {D : Addr} {o₀ : HO} {Qd : Hp → Prop} (Pv : Nat → Hp → Prop) (h0 : Pv 0 (upd H1 D o₀)) (hl : ∀ i H, Pv i H → SqL K H a xs)
    (hs : ∀ i x H, xs[i]? = some x → Pv i H → g x (wipe σ vs) H fun σ2 H2 => wipe σ2 vs = wipe σ vs ∧ tt σ2 H2 fun b H3 => if b = true then tk σ2 H3 fun y H4 => tv σ2 H4 fun z H5 => ∃ H6, DPut H5 D y z H6 ∧ Pv (i + 1) H6 else Pv (i + 1) H3) (hd : ∀ H, Pv xs.length H → Qd H) :
    ∃ W : Nat → Nat → Hp → Prop, (∃ m, W 0 m (upd H1 D o₀)) ∧ ∀ i m H, W i m H → ((Itl K a).stop i H ∧ Qd H) ∨ ((Itl K a).go i H ∧ ∃ Nx : Hp → Prop, (∀ H', Nx H' → ∃ m', m' < m ∧ W (i + 1) m' H') ∧ ∀ x H', (Itl K a).yld i H x H' →
      g x (wipe σ vs) H' fun σ2 H2 => wipe σ2 vs = wipe σ vs ∧ tt σ2 H2 fun b H3 => if b = true then tk σ2 H3 fun y H4 => tv σ2 H4 fun z H5 => ∃ H6, DPut H5 D y z H6 ∧ Nx H6 else Nx H3) := by
  refine ⟨fun i m H => i + m = xs.length ∧ Pv i H, ⟨xs.length, Nat.zero_add _, h0⟩, fun i m H ⟨e, p⟩ => ?_⟩
  cases m with
  | zero => exact .inl ⟨⟨xs, hl i H p, Nat.le_of_eq e.symm⟩, hd H (by rw [← e]; exact p)⟩
  | succ m =>
    have lt : i < xs.length := by omega
    exact .inr ⟨⟨xs, xs[i], hl i H p, List.getElem?_eq_getElem lt⟩, Pv (i + 1), fun H' p' => ⟨m, Nat.lt_succ_self _, by omega, p'⟩, fun x H' ⟨eH, all⟩ => by
      subst eH
      exact hs i x _ (all xs (hl i _ p)) p⟩
theorem r_dcA {o₀ : HO} {wi : TI} {g : TG} {tt : TT} {tk tv : TE} {vs : List Nat} {σ : L2.St} {H : Hp} {Q : VK} (q : wi σ H fun J H1 => ∀ D, H1 D = none → ∃ W : Nat → Nat → Hp → Prop, (∃ m, W 0 m (upd H1 D o₀)) ∧ ∀ i m H, W i m H →
  (J.stop i H ∧ Q (.ref D) H) ∨ (J.go i H ∧ ∃ Nx : Hp → Prop, (∀ H', Nx H' → ∃ m', m' < m ∧ W (i + 1) m' H') ∧ ∀ x H', J.yld i H x H' → g x (wipe σ vs) H' fun σ2 H2 => wipe σ2 vs = wipe σ vs ∧ tt σ2 H2 fun b H3 =>
    if b = true then tk σ2 H3 fun y H4 => tv σ2 H4 fun z H5 => ∃ H6, DPut H5 D y z H6 ∧ Nx H6 else Nx H3)) : tDcA o₀ wi g tt tk tv vs σ H Q := q
/-! ### entries of parts, as data -/
def isEntryD (ag : Bool) : PyData → Bool
  | .tuple [p, a] => isPathD ag p && isAnswerD a
  | _ => false
def pathD : PyData → List Str
  | .tuple [.tuple zs, _] => zs.map fun | .str z => z | _ => ⟨#[]⟩
  | _ => []
/-- the first of these entries that cannot stand behind those with the paths seen -/
def badAt (ag : Bool) : List (List Str) → List PyData → Option Nat
  | _, [] => none
  | seen, d :: ds => if isEntryD ag d = true ∧ pathD d ∉ seen then (badAt ag (pathD d :: seen) ds).map (· + 1) else some 0
def partD (ag : Bool) : PyData → Option Int
  | .list ds => (badAt ag [] ds).map fun i => (i : Int)
  | .tuple ds => (badAt ag [] ds).map fun i => (i : Int)
  | _ => some (-1)
end WP

set_option Elab.async false
set_option linter.all false
set_option maxRecDepth 100000
set_option maxHeartbeats 400000
/-! displays that build plain data -/
namespace WP
open PySem PySem.Spec PyProof.Rows L2
/-- te builds a value with the data d; what G holds stays (b is the bag) -/
def Bld (K : PySem.W.Frag) (b : Addr) (G : Hp) (σ : L2.St) (te : TE) (d : PyData) : Prop := ∀ (H : Hp) (Q : VK), H b ≠ none → Evl.Ex G (hid b H) → (∀ v H', Evl.Ex H H' → Dp K (hid b H') v d → Q v H') → te σ H Q
def BldA (K : PySem.W.Frag) (b : Addr) (G : Hp) (σ : L2.St) (ta : TA) (ds : List PyData) : Prop := ∀ (H : Hp) (Q : List V → Hp → Prop), H b ≠ none → Evl.Ex G (hid b H) → (∀ vs H', Evl.Ex H H' → DpAll K (hid b H') vs ds → Q vs H') → ta σ H Q
section
variable {K : PySem.W.Frag} {b : Addr} {G : Hp} {σ : L2.St}
theorem ex_some {H H' : Hp} {a : Addr} (e : Evl.Ex H H') (h : H a ≠ none) : H' a ≠ none := by
  cases o : H a with
  | none => exact absurd o h
  | some x => rw [e _ _ o]; exact fun q => by cases q
theorem bld_non : Bld K b G σ (tC .non) .none := fun H Q _ _ q => q _ _ (Evl.Ex.refl _) .non
theorem bld_bl {k : Bool} : Bld K b G σ (tC (.bl k)) (.bool k) := fun H Q _ _ q => q _ _ (Evl.Ex.refl _) (.bl k)
theorem bld_int {i : Int} : Bld K b G σ (tC (.int i)) (.int i) := fun H Q _ _ q => q _ _ (Evl.Ex.refl _) (.int i)
theorem bld_str {z : Str} : Bld K b G σ (tC (.str z)) (.str z) := fun H Q _ _ q => q _ _ (Evl.Ex.refl _) (.str z)
theorem bld_var {i : Nat} {v : V} {d : PyData} (hd : Dp K G v d) (h : σ[i]? = some (some v) := by rfl) : Bld K b G σ (tVar i) d := fun H Q _ hG q => r_var h (q _ _ (Evl.Ex.refl _) (Dp.mono hG hd))
theorem bldA_nil : BldA K b G σ tNil [] := fun H Q _ _ q => q _ _ (Evl.Ex.refl _) .nil
theorem bldA_cons {te : TE} {ta : TA} {d : PyData} {ds : List PyData} (h : Bld K b G σ te d) (hs : BldA K b G σ ta ds) : BldA K b G σ (tCons te ta) (d :: ds) := fun H Q hb hG q =>
  r_cons (h H _ hb hG fun v H1 e1 d1 => hs H1 _ (ex_some e1 hb) (hG.trans (hid_mono e1)) fun vs H2 e2 d2 => q _ _ (e1.trans e2) (.cons (Dp.mono (hid_mono e2) d1) d2))
theorem fresh_ne {H : Hp} {p : Addr} (hb : H b ≠ none) (hp : H p = none) : p ≠ b := fun e => hb (e ▸ hp)
theorem bld_tup {ta : TA} {ds : List PyData} (h : BldA K b G σ ta ds) (hl : Nat.ble ds.length 100000 = true := by rfl) : Bld K b G σ (tTup ta) (.tuple ds) := fun H Q hb hG q =>
  r_tup (h H _ hb hG fun vs H1 e1 d1 => ⟨by have := Nat.le_of_ble_eq_true hl; rw [DpAll.length d1, sizeLine_eq]; omega, fun p hp => q _ _ (e1.trans (Evl.Ex.new hp)) (.tup (SqT.of (hid_of upd_same (fresh_ne (ex_some e1 hb) hp))) (DpAll.mono (hid_mono (Evl.Ex.new hp)) d1))⟩)
/-- a list display, its items known by their data -/
theorem bldL {ta : TA} {ds : List PyData} {H : Hp} {Q : VK} (h : BldA K b G σ ta ds) (hb : H b ≠ none) (hG : Evl.Ex G (hid b H)) (q : ∀ (p : Addr) (vs : List V) (H' : Hp), Evl.Ex H H' → hid b H' p = some (.lst vs) → DpAll K (hid b H') vs ds → Q (.ref p) H') (hl : Nat.ble ds.length 100000 = true := by rfl) : tLst ta σ H Q :=
  r_lst (h H _ hb hG fun vs H1 e1 d1 => ⟨by have := Nat.le_of_ble_eq_true hl; rw [DpAll.length d1, sizeLine_eq]; omega, fun p hp => q p vs _ (e1.trans (Evl.Ex.new hp)) (hid_of upd_same (fresh_ne (ex_some e1 hb) hp)) (DpAll.mono (hid_mono (Evl.Ex.new hp)) d1)⟩)
theorem bld_lst {ta : TA} {ds : List PyData} (h : BldA K b G σ ta ds) (hl : Nat.ble ds.length 100000 = true := by rfl) : Bld K b G σ (tLst ta) (.list ds) := fun H Q hb hG q =>
  bldL h hb hG (fun p vs H' e hp hd => q _ _ e (.lst (SqL.of hp) hd)) hl
theorem bld_add {ta tb : TE} {y z : Str} (h1 : Bld K b G σ ta (.str y)) (h2 : Bld K b G σ tb (.str z)) (hl : y.length + z.length ≤ 1000000) : Bld K b G σ (tOp (rAddA K) ta tb) (.str (y ++ z)) := fun H Q hb hG q =>
  r_op (h1 H _ hb hG fun v H1 e1 d1 => h2 H1 _ (ex_some e1 hb) (hG.trans (hid_mono e1)) fun u H2 e2 d2 => by
    cases d1
    cases d2
    exact r_addS (by rw [sizeLine_eq]; omega) (q _ _ (e1.trans e2) (.str _)))
theorem bld_mul {ta : TE} {z : Str} {n : Int} (h1 : Bld K b G σ ta (.str z)) (hm : MulOk z n) : Bld K b G σ (tOp rMulA ta (tC (.int n))) (.str (Txt.mul z n)) := fun H Q hb hG q =>
  r_op (h1 H _ hb hG fun v H1 e1 d1 => r_c (by
    cases d1
    exact r_mulS hm (q _ _ e1 (.str _))))
theorem bld_ix0 {i : Nat} {p : Addr} {z : Str} {zs : List Str} (hp : G p = some (.tup ((z :: zs).map V.str))) (h : σ[i]? = some (some (.ref p)) := by rfl) : Bld K b G σ (tOp (rIx K) (tVar i) (tC (.int 0))) (.str z) := fun H Q hb hG q =>
  r_op (r_var h (r_c (r_ixT (SqT.of (hid_get (hG _ _ hp))) (atI_nat (j := 0) rfl) (q _ _ (Evl.Ex.refl _) (.str z)))))
theorem DpAll.memD {H : Hp} : ∀ {vs : List V} {ds : List PyData} {v : V}, DpAll K H vs ds → v ∈ vs → ∃ d ∈ ds, Dp K H v d
  | _, _, _, .nil, h => by cases h
  | _ :: _, d :: _, v, .cons h r, m => by
    rcases List.mem_cons.mp m with rfl | m
    · exact ⟨d, List.mem_cons_self .., h⟩
    · obtain ⟨e, he, q⟩ := DpAll.memD r m
      exact ⟨e, List.mem_cons_of_mem _ he, q⟩
theorem DpAll.appD {H : Hp} : ∀ {vs us : List V} {ds es : List PyData}, DpAll K H vs ds → DpAll K H us es → DpAll K H (vs ++ us) (ds ++ es)
  | _, _, _, _, .nil, h => h
  | _ :: _, _, _ :: _, _, .cons h r, g => .cons h (DpAll.appD r g)
/-- a value whose data are not what f asks -/
def BadV (K : PySem.W.Frag) (G : Hp) (f : PyData → Bool) (v : V) : Prop := ∃ d, Dp K G v d ∧ fit d = true ∧ f d = false
theorem BadV.mono {G' : Hp} {f : PyData → Bool} {v : V} (e : Evl.Ex G G') (h : BadV K G f v) : BadV K G' f v := let ⟨d, h1, h2⟩ := h; ⟨d, Dp.mono e h1, h2⟩
end
end WP

set_option Elab.async false
set_option linter.all false
set_option maxRecDepth 100000
set_option maxHeartbeats 1000000
/-! sorted of a list of tuples of texts; properties; defs that know that no text is being made; comprehensions over dicts -/
namespace WP
open PySem PySem.Spec PyProof.Rows L2
/-! ### sorted(xs), xs a list of tuples of texts -/
def rSortedTL (K : PySem.W.Frag) : List V → Hp → VK → Prop := fun xs H Q => ∃ (a : Addr) (bs : List Addr) (zs : List (List Str)), xs = [.ref a] ∧ SqL K H a (bs.map V.ref) ∧ Paired (fun b t => H b = some (.tup (t.map V.str))) bs zs ∧ (∀ z ∈ zs, z ≠ []) ∧
  ∀ (p : Addr) (cs : List Addr) (ts : List (List Str)), H p = none → cs.Perm bs → Paired (fun b t => H b = some (.tup (t.map V.str))) cs ts → ts.Perm zs → ts.Pairwise (fun x y => lexS y x = false) → Q (.ref p) (upd H p (.lst (cs.map V.ref)))
theorem vals_refs_eq : ∀ {bs : List Addr} {us : List Value}, Vals (bs.map V.ref) us → us = bs.map Value.ref
  | [], _, .nil => rfl
  | b :: bs, _, .cons r q => by
    cases r
    rw [vals_refs_eq q]
    rfl
theorem cr_sortedTL {X : Cx} (K : PySem.W.Frag) (hK : X.K = K := by rfl) : CallR X (.builtin "sorted") (rSortedTL K) := by
  subst hK
  intro pins s σ H xs us Q I r h
  obtain ⟨a, bs, zs, rfl, hs, at_, hne, q⟩ := h
  obtain ⟨u, rfl, rx⟩ := vals1 r
  cases rx
  obtain ⟨its, rv, hl, hz⟩ := I.list hs
  obtain rfl := vals_refs_eq rv
  obtain ⟨ez, tx⟩ := paired_texts at_
  have good : ∀ v ∈ bs.map Value.ref, ∃ b, v = .ref b ∧ H b = some (.tup ((textsAt H (.ref b)).map V.str)) ∧ textsAt H v ≠ [] := fun v hv => by
    obtain ⟨b, hb, rfl⟩ := List.mem_map.mp hv
    exact ⟨b, rfl, tx b hb, hne _ (by rw [← ez]; exact List.mem_map_of_mem hb)⟩
  refine SrtO.sorted_ord (swo_lexS (textsAt H)) hl.isList (by rw [← rv.length]; exact hz) (fun h2 h1 d ha up => ?_) fun out srt stb => ?_
  · refine tx_sortable h2 (fun v hv => ?_) fun v hv => ?_
    · obtain ⟨b, rfl, e, ne⟩ := good v hv
      obtain ⟨b', o', its, n', e', g, r'⟩ := tup_isTx I e
      exact ⟨⟨b', o', its, n', e', (up b' o' g).2, r'⟩, ne⟩
    · obtain ⟨b, rfl, e, ne⟩ := good v hv
      obtain ⟨b', o', its, n', e', g, r'⟩ := tup_isTx I e
      cases e'
      exact fun z => (up b o' g).1 (Value.ref.inj z)
  · have mem : ∀ v ∈ out, ∃ b, v = .ref b ∧ H b = some (.tup ((textsAt H (.ref b)).map V.str)) := fun v hv => by
      obtain ⟨b, e, e', _⟩ := good v (stb.perm.mem_iff.mp hv)
      exact ⟨b, e, e'⟩
    have back := refs_back (out := out) fun v hv => let ⟨b, e, _⟩ := mem v hv; ⟨b, e⟩
    have pm : (out.map adT).Perm bs := by
      have p := stb.perm.map adT
      rw [List.map_map] at p
      exact p.trans (by rw [show (adT ∘ Value.ref) = id from rfl, List.map_id])
    have tx' : ∀ b ∈ out.map adT, H b = some (.tup ((textsAt H (.ref b)).map V.str)) := fun b hb => tx b (pm.mem_iff.mp hb)
    have vals : Vals ((out.map adT).map V.ref) out := by
      have v := vals_refs (out.map adT)
      rw [← back] at v
      exact v
    obtain ⟨m, e1⟩ := sortedAll_at s.heap (bs.map Value.ref) out.toArray
    refine ⟨.ref (s.heap.objs.size + 1), _, I.laid (t' := s.toks) (o := .lst ((out.map adT).map V.ref)) (fun b o e => sortedAll_old e) (Nat.le_succ _) ⟨by rw [List.length_map, pm.length_eq]; simpa using hz, out, m, vals, e1⟩, rfl, q _ (out.map adT) _ (I.hok.fresh (Nat.le_succ _)) pm (paired_of tx') ?_ ?_⟩
    · rw [← ez]
      exact pm.map _
    · rw [List.pairwise_map]
      rw [back, SrtO.Srtd, List.pairwise_map] at srt
      exact srt
/-! ### properties -/
structure CalP (P : Program) (w : World) (K : PySem.W.Frag) (mg : Str → Option Value) (base : Heap) (CX : CXT) (k : Nat) (C : Addr) (f : Str) (sp : Sp) : Prop where
  ex : ∃ (p g : Addr) (fd : FuncData) (ps : List Str), FnOk P w K mg base CX k g fd ps sp ∧ PropOf K C f p g ∧ Binds K fd ps []
/-- what the head tells of a property -/
structure AtP (K : PySem.W.Frag) (C : Addr) (f qual : Str) (st : Stmt) : Prop where
  ex : ∃ (p g : Addr) (fd : FuncData), FunD K f qual (defArgs st) (defBody st) (defScope st) [] [] g fd ∧ PropOf K C f p g
section
variable {X : Cx} {CX : CXT} {k j : Nat} {C : Addr} {f : Str} {sp : Sp} {E : XK} {e : Expr} {pos : Pos} {te : TE}
theorem pe_cP (c : CalP X.prog X.w X.K X.mg X.base CX k C f sp) (hr : Room j X.A) (hk : k + 1 ≤ j) (cl : Cls X.K C) (hx : Passes CX X.nox E) (he : PE X e te) (hab : attributeBase e f X.env (eval e X.env) = eval e X.env := by rfl) : PE X (.Attribute e f pos) (tProp C sp [] E te) := by
  obtain ⟨p, g, fd, ps, F, hp, hb⟩ := c.ex
  exact pe_prop he cl hp F (hr.mono hk) hb .nil hx hab
theorem r_prop {σ : L2.St} {H : Hp} {Q : VK} {dvs : List V} (q : te σ H fun x H1 => ∃ a dx fs, x = .ref a ∧ H1 a = some (.ins C dx fs) ∧ sp (.ref a :: dvs) H1 Q E) : tProp C sp dvs E te σ H Q := q
end
section
variable {P : Program} {w : World} {K : PySem.W.Frag} {mg : Str → Option Value} {base : Heap}
theorem calP_of {C : Addr} {f qual : Str} {st : Stmt} {N ps : List Str} {k : Nat} {sp : Sp} (F : AtP K C f qual st) (S : FnScope N ps (defScope st)) (len : ∀ vs H Q E, sp vs H Q E → vs.length = ps.length)
    (hb : ∀ (kV doc pm : Value) (an : Option Addr) (cdv ct : Value) (us : List Value), us.length = ps.length → bindArgs (PySem.W.fnOf f qual (defArgs st) (defBody st) (defScope st) .none kV doc pm an cdv ct) ⟨us, []⟩ = pure (ps.zip us))
    (hbody : ∀ (f : Addr) (cdv : Value) (A : Around) (outer : List Env) (s : Shared) (H : Hp) (vs : List V) (Q : VK) (E : XK), Room k (A.deeper (envOfC qual (defScope st) s.heap.objs.size f cdv)) → sp vs H Q E →
      ∃ t, PSs (cxOf L2.CX0 P w K mg base N qual (defScope st) f cdv A outer s H E).nox (defBody st) t ∧ t { nx := fun _ H' => Q .non H', rt := Q } (start N vs) H) : CalP P w K mg base L2.CX0 (k + 1) C f sp := by
  obtain ⟨p, g, fd, F, hp⟩ := F.ex
  refine ⟨p, g, fd, ps, F.ok S len fun cdv A outer s H vs Q E hr hsp => ?_, hp, F.bindsN hb⟩
  obtain ⟨t, h, q⟩ := hbody g cdv A outer s H vs Q E hr hsp
  exact ⟨t, h.nox, q⟩
/-- a property in the written part, by computation -/
def propB (K : PySem.W.Frag) (C : Addr) (f : Str) : Bool := match PySem.W.findIn K (.ref C) f with
  | some (some (.ref p)) => He.eqO (PySem.W.specialIn K (.ref p) "__get__") (some (some (.builtin "property.__get__"))) && (decide (PySem.W.takesIn K (.ref p) = some true) && (match PySem.W.recIn K p "property" with
    | some (.ref _ :: _) => true
    | _ => false))
  | _ => false
/-- where its getter stands -/
def propA (C f : Str) (K : PySem.W.Frag) : Addr := match PySem.W.findIn K (.ref (He.ga K C)) f with
  | some (some (.ref p)) => (match PySem.W.recIn K p "property" with
    | some (.ref g :: _) => g
    | _ => 0)
  | _ => 0
theorem propB_ok {C f : Str} (h : propB K (He.ga K C) f = true) : ∃ p, PropOf K (He.ga K C) f p (propA C f K) := by
  unfold propB at h
  split at h
  · rename_i p e
    obtain ⟨h1, h⟩ := Bool.and_eq_true_iff.mp h
    obtain ⟨h2, h3⟩ := Bool.and_eq_true_iff.mp h
    split at h3
    · rename_i g r er
      have ea : propA C f K = g := by
        unfold propA
        rw [e]
        simp only [er]
      rw [ea]
      exact ⟨p, e, He.eqO_ok h1, of_decide_eq_true h2, r, er⟩
    · cases h3
  · cases h
end
/-! ### defs entered where no text is being made -/
structure CalT (P : Program) (w : World) (K : PySem.W.Frag) (mg : Str → Option Value) (base : Heap) (k : Nat) (x : Str) (sp : Sp) : Prop where
  ex : ∃ (f : Addr) (fd : FuncData) (ps : List Str), FnG P w K mg base L2.CX0 k f fd ps sp ∧ mg x = some (.ref f) ∧ PySem.W.keepIn K (.ref f) = true ∧ Binds K fd ps []
theorem FnG.mono {P : Program} {w : World} {K : PySem.W.Frag} {mg : Str → Option Value} {base : Heap} {CX : CXT} {k : Nat} {f : Addr} {fd : FuncData} {ps : List Str} {sp : Sp} (F : FnOk P w K mg base CX k f fd ps sp) : FnG P w K mg base CX k f fd ps sp :=
  ⟨F.len, fun A outer s H args us vs Q E _ hr e0 hb r h => F.run A outer s H args us vs Q E hr e0 hb r h⟩
section
variable {P : Program} {w : World} {K : PySem.W.Frag} {mg : Str → Option Value} {base : Heap}
theorem Cal.toT {k : Nat} {x : Str} {sp : Sp} (c : Cal P w K mg base k x sp) : CalT P w K mg base k x sp := let ⟨f, fd, ps, F, h⟩ := c.ex; ⟨f, fd, ps, FnG.mono F, h⟩
theorem calT_of {x : Str} {st : Stmt} {N ps : List Str} {k : Nat} {sp : Sp} (F : At K mg x st) (S : FnScope N ps (defScope st)) (len : ∀ vs H Q E, sp vs H Q E → vs.length = ps.length)
    (hb : ∀ (kV doc pm : Value) (an : Option Addr) (cdv ct : Value) (us : List Value), us.length = ps.length → bindArgs (PySem.W.fnOf x x (defArgs st) (defBody st) (defScope st) .none kV doc pm an cdv ct) ⟨us, []⟩ = pure (ps.zip us))
    (hbody : ∀ (f : Addr) (cdv : Value) (A : Around) (outer : List Env) (s : Shared) (H : Hp) (vs : List V) (Q : VK) (E : XK), A.guards = some [] → Room k (A.deeper (envOfC x (defScope st) s.heap.objs.size f cdv)) → sp vs H Q E →
      ∃ t, PSs (cxOf L2.CX0 P w K mg base N x (defScope st) f cdv A outer s H E).nox (defBody st) t ∧ t { nx := fun _ H' => Q .non H', rt := Q } (start N vs) H) : CalT P w K mg base (k + 1) x sp := by
  obtain ⟨f, fd, F, m⟩ := F.ex
  refine ⟨f, fd, ps, okG F S len fun cdv A outer s H vs Q E gd hr hsp => ?_, m, F.kp, F.bindsN hb⟩
  obtain ⟨t, h, q⟩ := hbody f cdv A outer s H vs Q E gd hr hsp
  exact ⟨t, h.nox, q⟩
end
section
variable {X : Cx} {k j : Nat} {x : Str} {sp : Sp} {p pos : Pos} {e : Expr} {es : List Expr} {t : TA}
theorem pe_cT (c : CalT X.prog X.w X.K X.mg X.base k x sp) (hg : X.A.guards = some []) (hr : Room j X.A) (hk : k ≤ j) (hgl : Gl X x) (ha : PA X (e :: es) t)
    (hdb : (x == ("__debug__" : Str)) = false := by decide) (he : starEach (e :: es) X.env = (false, eval e X.env) :: starEach es X.env := by rfl) (hpl : (backTo pos (starEach es X.env)).any (·.1) = false := by rfl) :
    PE X (.Call (.Name x p) (e :: es) [] pos) (tCall sp [] L2.E0 t) := by
  obtain ⟨f, fd, ps, F, hm, kp, b⟩ := c.ex
  refine ⟨fun pins s σ H Q I h => ?_⟩
  refine wpAny_Call_Name_kw (ld_glob I hgl hm ?_ hdb)
  refine PySem.W.callWith_K (h₀ := X.base) I.ok.mod.kin kp (thn (ha.run pos pins s σ H _ I h) fun us s1 ⟨vs, H1, I1, r, q⟩ => ⟨I1.kIn, ?_⟩) he hpl
  have q : sp (vs ++ []) H1 Q L2.E0 := q
  rw [List.append_nil] at q
  have hl := F.len _ _ _ _ q
  have bound := b s1 us I1.kIn (by rw [List.append_nil, ← r.length]; exact hl)
  rw [List.append_nil] at bound
  refine wpAny_call (codeAny_mono (F.run X.A X.stack s1 H1 ⟨us, []⟩ us vs Q L2.E0 hg (hr.mono hk) I1.env0 bound r q) ?_)
  rintro (er | fl) s' out
  · exact L2.pass0 pins σ H1 s1 er s' I1 out
  · cases fl <;> first | exact I1.after out | exact out.elim
end
/-! ### what a def leaves as it was: what is not to be changed, and what is new -/
def fixed : HO → Bool
  | .tup _ => true
  | .frz _ _ => true
  | _ => false
def imm (H H' : Hp) : Hp := fun a => match H a with
  | none => H' a
  | some o => if fixed o = true then some o else none
theorem imm_new {H H' : Hp} {a : Addr} {o : HO} (h : H a = none) (h' : H' a = some o) : imm H H' a = some o := by
  unfold imm
  rw [h]
  exact h'
theorem imm_old {H H' : Hp} {a : Addr} {o : HO} (h : H a = some o) (f : fixed o = true) : imm H H' a = some o := by
  unfold imm
  rw [h]
  exact if_pos f
theorem imm_cases {H H' : Hp} {a : Addr} {o : HO} (h : imm H H' a = some o) : (H a = none ∧ H' a = some o) ∨ (H a = some o ∧ fixed o = true) := by
  unfold imm at h
  cases e : H a with
  | none => rw [e] at h; exact .inl ⟨rfl, h⟩
  | some u =>
    rw [e] at h
    by_cases f : fixed u = true
    · have h : (if fixed u = true then some u else none) = some o := h
      rw [if_pos f] at h
      cases h
      exact .inr ⟨rfl, f⟩
    · have h : (if fixed u = true then some u else none) = some o := h
      rw [if_neg f] at h
      cases h
theorem imm_ex {H H' : Hp} (e : Evl.Ex H H') : Evl.Ex (imm H H') H' := fun a o h => by
  rcases imm_cases h with ⟨_, h⟩ | ⟨h, _⟩
  · exact h
  · exact e _ _ h
theorem imm_mono {H H1 H2 : Hp} (e : Evl.Ex H1 H2) : Evl.Ex (imm H H1) (imm H H2) := fun a o h => by
  rcases imm_cases h with ⟨h1, h⟩ | ⟨h, f⟩
  · exact imm_new h1 (e _ _ h)
  · exact imm_old h f
/-- a change of what was there, and is no tuple -/
theorem imm_upd {H H' : Hp} {a : Addr} {o u : HO} (h : H a = some u) (f : fixed u = false) : Evl.Ex (imm H H') (imm H (upd H' a o)) := fun c v hc => by
  rcases imm_cases hc with ⟨h1, h2⟩ | ⟨h1, h2⟩
  · exact imm_new h1 (by rw [upd_ne fun q => by rw [q, h] at h1; cases h1]; exact h2)
  · exact imm_old h1 h2
theorem imm_hid {b : Addr} {H H' : Hp} {l : List V} (hb : H b = some (.lst l)) (e : Evl.Ex H H') : Evl.Ex (imm H H') (hid b H') := fun a o h => by
  refine hid_of (imm_ex e _ _ h) fun q => ?_
  rcases imm_cases h with ⟨h1, _⟩ | ⟨h1, f⟩
  · rw [q, hb] at h1; cases h1
  · rw [q, hb] at h1; cases h1; cases f
theorem imm_base {H0 H1 H2 : Hp} (e : Evl.Ex H0 H1) : Evl.Ex (imm H1 H2) (fun a => match H0 a with | none => imm H1 H2 a | some o => if fixed o = true then some o else none) := fun a o h => by
  cases q : H0 a with
  | none => simp only [q]; exact h
  | some u =>
    rcases imm_cases h with ⟨h1, _⟩ | ⟨h1, f⟩
    · rw [e _ _ q] at h1; cases h1
    · rw [e _ _ q] at h1
      cases h1
      simp only [q]
      rw [if_pos f]
/-! ### comprehensions over a dict that is locked meanwhile -/
theorem ex_lock {H : Hp} {d : Addr} {o : HO} : Evl.Ex (hid d H) (upd H d o) := fun a u h => by
  rw [upd_ne (hid_ne h)]
  exact hid_get h
theorem ex_unlock {H H' : Hp} {d : Addr} {o u : HO} (h : H d = some u) (e : Evl.Ex (upd H d o) H') : Evl.Ex H (upd H' d u) := fun a v ha => by
  by_cases q : a = d
  · subst q
    rw [upd_same, ← ha, h]
  · rw [upd_ne q]
    exact e _ _ (by rw [upd_ne q]; exact ha)
def isSeq : HO → Bool
  | .lst _ => true
  | .tup _ => true
  | .frz _ (.lst _) => true
  | .frz _ (.tup _) => true
  | _ => false
mutual
theorem Dp.hidM {K : PySem.W.Frag} {H : Hp} {x : Addr} {u : HO} (hx : H x = some u) (n : isSeq u = false) : ∀ {d : PyData} {v : V}, Dp K H v d → Dp K (hid x H) v d
  | _, _, .non => .non
  | _, _, .bl b => .bl b
  | _, _, .int i => .int i
  | _, _, .str z => .str z
  | _, _, .lst s r => by
    refine .lst ?_ (DpAll.hidM hx n r)
    rcases s with (s | ⟨o, s⟩) | s
    · exact .inl (.inl (hid_of s fun q => by rw [q, hx] at s; cases s; cases n))
    · exact .inl (.inr ⟨o, hid_of s fun q => by rw [q, hx] at s; cases s; cases n⟩)
    · exact .inr s
  | _, _, .tup s r => by
    refine .tup ?_ (DpAll.hidM hx n r)
    rcases s with (s | ⟨o, s⟩) | s
    · exact .inl (.inl (hid_of s fun q => by rw [q, hx] at s; cases s; cases n))
    · exact .inl (.inr ⟨o, hid_of s fun q => by rw [q, hx] at s; cases s; cases n⟩)
    · exact .inr s
theorem DpAll.hidM {K : PySem.W.Frag} {H : Hp} {x : Addr} {u : HO} (hx : H x = some u) (n : isSeq u = false) : ∀ {ds : List PyData} {vs : List V}, DpAll K H vs ds → DpAll K (hid x H) vs ds
  | _, _, .nil => .nil
  | _, _, .cons a r => .cons (Dp.hidM hx n a) (DpAll.hidM hx n r)
end
/-- what a def that lays new things tells while d is locked, seen behind the unlocking -/
theorem imm_lock {H H' H3 G : Hp} {d D : Addr} {l : List V} (e0 : Evl.Ex (hid d H) H') (hd : H' d ≠ none) (hD : H' D = some (.lst l)) (e3 : Evl.Ex H' H3) (eG : ∀ c o, c ≠ d → c ≠ D → H3 c = some o → G c = some o) : Evl.Ex (hid d (imm H' H3)) (imm H G) := fun c o hc => by
  have nd := hid_ne hc
  rcases imm_cases (hid_get hc) with ⟨h1, h2⟩ | ⟨h1, h2⟩
  · have nD : c ≠ D := fun e => by rw [e, hD] at h1; cases h1
    refine imm_new ?_ (eG _ _ nd nD h2)
    cases q : H c with
    | none => rfl
    | some o' => rw [e0 _ _ (hid_of q nd)] at h1; cases h1
  · have nD : c ≠ D := fun e => by rw [e, hD] at h1; cases h1; cases h2
    cases q : H c with
    | none => exact imm_new q (eG _ _ nd nD (e3 _ _ h1))
    | some o' =>
      rw [e0 _ _ (hid_of q nd)] at h1
      cases h1
      exact imm_old q h2
end WP

set_option Elab.async false
set_option linter.all false
set_option maxRecDepth 100000
set_option maxHeartbeats 1000000
/-! tables of parts: paths and answers, ascending -/
namespace WP
open PySem PySem.Spec PyProof.Rows L2
abbrev PTab := List (List Str × PyData)
theorem lists_tri : ∀ {a b : List (List Nat)}, ¬ a < b → ¬ b < a → a = b
  | [], [], _, _ => rfl
  | [], _ :: _, h, _ => absurd (List.nil_lt_cons _ _) h
  | _ :: _, [], _, h => absurd (List.nil_lt_cons _ _) h
  | a :: x, b :: y, h, k => by
    rw [List.cons_lt_cons_iff] at h k
    have e : a = b := nat_lists_tri (fun q => h (.inl q)) (fun q => k (.inl q))
    subst e
    rw [lists_tri (a := x) (b := y) (fun q => h (.inr ⟨rfl, q⟩)) (fun q => k (.inr ⟨rfl, q⟩))]
theorem lexS_tri {x y : List Str} (h : lexS x y = false) (k : lexS y x = false) : x = y := codes_inj (lists_tri (of_decide_eq_false h) (of_decide_eq_false k))
theorem lexS_asym {x y : List Str} (h : lexS x y = true) : lexS y x = false := decide_eq_false (lists_asymm (of_decide_eq_true h))
theorem lexS_irr (x : List Str) : lexS x x = false := by
  cases h : lexS x x with
  | false => rfl
  | true => have := lexS_asym h; rw [h] at this; exact this
def Asc (t : PTab) : Prop := t.Pairwise fun x y => lexS x.1 y.1 = true
theorem asc_uniq : ∀ {a b : PTab}, Asc a → Asc b → a.Perm b → a = b
  | [], b, _, _, p => (List.Perm.eq_nil p.symm).symm
  | x :: l, [], _, _, p => absurd p.length_eq (by simp)
  | x :: l, y :: m, ha, hb, p => by
    have ha' := List.pairwise_cons.mp ha
    have hb' := List.pairwise_cons.mp hb
    have e : x = y := by
      rcases List.mem_cons.mp (p.mem_iff.mp (List.mem_cons_self (a := x) (l := l))) with e | h1
      · exact e
      · rcases List.mem_cons.mp (p.mem_iff.mpr (List.mem_cons_self (a := y) (l := m))) with e | h2
        · exact e.symm
        · have := lexS_asym (hb'.1 x h1)
          rw [ha'.1 y h2] at this
          cases this
    subst e
    rw [asc_uniq ha'.2 hb'.2 p.cons_inv]
theorem Asc.nodup {t : PTab} (h : Asc t) : (t.map (·.1)).Nodup := by
  rw [List.nodup_iff_pairwise_ne, List.pairwise_map]
  exact List.Pairwise.imp (fun {a b} q e => by rw [e, lexS_irr] at q; cases q) h
/-- the table that these rows make -/
structure TabOf (ps tab : PTab) : Prop where
  asc : Asc tab
  perm : tab.Perm (ps.filter fun t => !isNonD t.2)
theorem TabOf.mem {ps tab : PTab} (h : TabOf ps tab) {t : List Str × PyData} : t ∈ tab ↔ t ∈ ps ∧ isNonD t.2 = false := by
  rw [h.perm.mem_iff, List.mem_filter]
  simp
theorem TabOf.len {ps tab : PTab} (h : TabOf ps tab) : tab.length ≤ ps.length := by
  rw [h.perm.length_eq]
  exact List.length_filter_le _ _
theorem TabOf.uniq {ps a b : PTab} (h : TabOf ps a) (k : TabOf ps b) : a = b := asc_uniq h.asc k.asc (h.perm.trans k.perm.symm)
theorem TabOf.permute {ps qs a : PTab} (h : TabOf ps a) (p : ps.Perm qs) : TabOf qs a := ⟨h.asc, h.perm.trans (p.filter _)⟩
/-- the first answer to a path -/
def tabV (t : PTab) (z : List Str) : Option PyData := (t.find? fun x => decide (x.1 = z)).map (·.2)
theorem tabV_nil {z : List Str} : tabV [] z = none := rfl
theorem tabV_pos {p : List Str × PyData} {r : PTab} {z : List Str} (e : p.1 = z) : tabV (p :: r) z = some p.2 := by simp [tabV, List.find?_cons, e]
theorem tabV_neg {p : List Str × PyData} {r : PTab} {z : List Str} (e : ¬ p.1 = z) : tabV (p :: r) z = tabV r z := by simp [tabV, List.find?_cons, e]
theorem tabV_mem : ∀ {t : PTab} {z : List Str} {d : PyData}, tabV t z = some d → (z, d) ∈ t
  | [], z, d, h => by cases h
  | p :: r, z, d, h => by
    by_cases e : p.1 = z
    · rw [tabV_pos e] at h
      cases h
      rw [← e]
      exact List.mem_cons_self ..
    · rw [tabV_neg e] at h
      exact List.mem_cons_of_mem _ (tabV_mem h)
theorem tabV_of : ∀ {t : PTab} {z : List Str} {d : PyData}, (t.map (·.1)).Nodup → (z, d) ∈ t → tabV t z = some d
  | p :: r, z, d, nd, h => by
    rw [List.map_cons, List.nodup_cons] at nd
    rcases List.mem_cons.mp h with h | h
    · rw [← h]
      exact tabV_pos rfl
    · rw [tabV_neg fun e => nd.1 (by rw [e]; exact List.mem_map.mpr ⟨_, h, rfl⟩)]
      exact tabV_of nd.2 h
theorem tabV_none : ∀ {t : PTab} {z : List Str}, z ∉ t.map (·.1) → tabV t z = none
  | [], z, _ => rfl
  | p :: r, z, h => by
    rw [List.map_cons, List.mem_cons, not_or] at h
    rw [tabV_neg fun e => h.1 e.symm]
    exact tabV_none h.2
theorem tabV_some {t : PTab} {z : List Str} (h : z ∈ t.map (·.1)) : ∃ d, tabV t z = some d := by
  cases e : tabV t z with
  | some d => exact ⟨d, rfl⟩
  | none =>
    exfalso
    induction t with
    | nil => cases h
    | cons p r ih =>
      by_cases q : p.1 = z
      · rw [tabV_pos q] at e; cases e
      · rw [tabV_neg q] at e
        rw [List.map_cons, List.mem_cons] at h
        exact ih (h.resolve_left fun x => q x.symm) e
/-- the answer of the rows and that of the table -/
theorem TabOf.val {ps tab : PTab} (h : TabOf ps tab) (nd : (ps.map (·.1)).Nodup) (z : List Str) : (tabV tab z).getD .none = (tabV ps z).getD .none := by
  cases e : tabV ps z with
  | some d =>
    have m := tabV_mem e
    cases q : isNonD d with
    | false => rw [tabV_of h.asc.nodup (h.mem.mpr ⟨m, q⟩)]
    | true =>
      have hd : d = .none := by cases d <;> first | rfl | cases q
      subst hd
      cases e2 : tabV tab z with
      | none => rfl
      | some d' =>
        have m2 := h.mem.mp (tabV_mem e2)
        have := tabV_of nd m2.1
        rw [e] at this
        cases this
        rfl
  | none =>
    cases e2 : tabV tab z with
    | none => rfl
    | some d' =>
      have m2 := (h.mem.mp (tabV_mem e2)).1
      rw [tabV_of nd m2] at e
      cases e
/-- sorted paths, each with its answer -/
theorem tab_sorted {ps : PTab} {ts : List (List Str)} (nd : (ps.map (·.1)).Nodup) (pm : ts.Perm (ps.map (·.1))) (srt : ts.Pairwise fun x y => lexS y x = false) : TabOf ps ((ts.map fun z => (z, (tabV ps z).getD .none)).filter fun t => !isNonD t.2) := by
  have ndt : ts.Nodup := pm.nodup_iff.mpr nd
  refine ⟨?_, ?_⟩
  · refine List.Pairwise.filter _ ?_
    rw [List.pairwise_map]
    refine List.Pairwise.imp₂ (R := fun x y => lexS y x = false) (S := fun x y => x ≠ y) (fun {a b} h1 h2 => ?_) srt (List.nodup_iff_pairwise_ne.mp ndt)
    cases e : lexS a b with
    | true => rfl
    | false => exact absurd (lexS_tri e h1) h2
  · refine List.Perm.filter _ ?_
    refine (pm.map _).trans (List.Perm.of_eq ?_)
    rw [List.map_map]
    refine (List.map_congr_left fun t ht => ?_).trans (List.map_id ps)
    show (t.1, (tabV ps t.1).getD .none) = t
    rw [tabV_of nd (show (t.1, t.2) ∈ ps from ht)]
    rfl
/-! ### a dict that holds such a table -/
def kvOf (z : List Str) : List L2.Key := z.map Sum.inr
theorem kvOf_inj {a b : List Str} (h : kvOf a = kvOf b) : a = b := (List.map_inj_right (fun _ _ q => Sum.inr.inj q)).mp h
theorem kvOf_kV (z : List Str) : (kvOf z).map kV = z.map V.str := by rw [kvOf, List.map_map]; rfl
def PKV (K : PySem.W.Frag) (G : Hp) (kvs : List (List L2.Key × V)) (t : PTab) : Prop := Paired (fun kv x => kv.1 = kvOf x.1 ∧ Dp K G kv.2 x.2) kvs t
theorem PKV.mono {K : PySem.W.Frag} {G G' : Hp} {kvs : List (List L2.Key × V)} {t : PTab} (e : Evl.Ex G G') (h : PKV K G kvs t) : PKV K G' kvs t := Paired.monoP (fun _ _ q => ⟨q.1, Dp.mono e q.2⟩) h
theorem PKV.len {K : PySem.W.Frag} {G : Hp} : ∀ {kvs : List (List L2.Key × V)} {t : PTab}, PKV K G kvs t → kvs.length = t.length
  | _, _, .nil => rfl
  | _, _, .cons _ r => congrArg (· + 1) (PKV.len r)
theorem PKV.val {K : PySem.W.Frag} {G : Hp} {z : List Str} : ∀ {kvs : List (List L2.Key × V)} {t : PTab}, PKV K G kvs t → (valV kvs (kvOf z) = none ∧ tabV t z = none) ∨ ∃ v d, valV kvs (kvOf z) = some v ∧ tabV t z = some d ∧ Dp K G v d
  | [], [], .nil => .inl ⟨rfl, rfl⟩
  | p :: kvs, x :: t, .cons h r => by
    by_cases e : x.1 = z
    · exact .inr ⟨p.2, x.2, valV_pos (by rw [h.1, e]), tabV_pos e, h.2⟩
    · rw [valV_neg (fun q => e (kvOf_inj (h.1.symm.trans q))), tabV_neg e]
      exact PKV.val r
theorem PKV.get {K : PySem.W.Frag} {G : Hp} : ∀ {kvs : List (List L2.Key × V)} {t : PTab} {i : Nat} {k : List L2.Key} {v : V}, PKV K G kvs t → kvs[i]? = some (k, v) → ∃ x, t[i]? = some x ∧ k = kvOf x.1 ∧ Dp K G v x.2
  | _, _, _, _, _, .nil, h => by simp at h
  | _ :: _, _ :: _, 0, k, v, .cons h _, e => by
    simp only [List.getElem?_cons_zero, Option.some.injEq] at e
    subst e
    exact ⟨_, rfl, h⟩
  | _ :: _, _ :: _, i + 1, k, v, .cons _ r, e => by
    rw [List.getElem?_cons_succ] at e ⊢
    exact PKV.get r e
theorem PKV.snoc {K : PySem.W.Frag} {G : Hp} {kvs : List (List L2.Key × V)} {t : PTab} {k : List L2.Key} {v : V} {x : List Str × PyData} (h : PKV K G kvs t) (e : k = kvOf x.1) (d : Dp K G v x.2) : PKV K G (kvs ++ [(k, v)]) (t ++ [x]) := Paired.snocP ⟨e, d⟩ h
theorem PKV.keys {K : PySem.W.Frag} {G : Hp} : ∀ {kvs : List (List L2.Key × V)} {t : PTab}, PKV K G kvs t → kvs.map (·.1) = (t.map (·.1)).map kvOf
  | _, _, .nil => rfl
  | _, _, .cons h r => by rw [List.map_cons, List.map_cons, List.map_cons, h.1, PKV.keys r]
/-- one row of a table -/
structure RowOk (t : List Str × PyData) : Prop where
  ne : t.1 ≠ []
  pf : fit (.tuple (t.1.map PyData.str)) = true
  af : fit t.2 = true
  an : isAnswerD t.2 = true
/-- the part at x -/
structure PartO (K : PySem.W.Frag) (C : Addr) (H : Hp) (x : Addr) (ag : Bool) (tab : PTab) : Prop where
  ex : ∃ (dx T : Addr) (kvs : List (List L2.Key × V)), H x = some (.ins C dx [("ageing", .bl ag), ("table", .ref T)]) ∧ H T = some (.dT kvs) ∧ PKV K H kvs tab
  asc : Asc tab
  ok : ∀ t ∈ tab, RowOk t ∧ isNonD t.2 = false
  few : tab.length ≤ 1000
theorem PartO.mono {K : PySem.W.Frag} {C : Addr} {H H' : Hp} {x : Addr} {ag : Bool} {tab : PTab} (e : Evl.Ex H H') (h : PartO K C H x ag tab) : PartO K C H' x ag tab := by
  obtain ⟨⟨dx, T, kvs, h1, h2, h3⟩, h4, h5, h6⟩ := h
  exact ⟨⟨dx, T, kvs, e _ _ h1, e _ _ h2, h3.mono e⟩, h4, h5, h6⟩
/-- an answer, looked at where only what is fixed is to be seen -/
theorem ans_imm {K : PySem.W.Frag} {H H' : Hp} {v : V} {d : PyData} (h : Dp K H v d) (ha : isAnswerD d = true) (nl : ∀ ds, d ≠ .list ds) : Dp K (imm H H') v d := by
  cases h with
  | non => exact .non
  | bl b => exact .bl b
  | int i => exact .int i
  | str z => exact .str z
  | lst s r => exact absurd rfl (nl _)
  | @tup a xs ds s r =>
    have hr : isRaisedD (.tuple ds) = true := ha
    have sq : SqT K (imm H H') a xs := by
      rcases s with (s | ⟨o, s⟩) | s
      · exact .inl (.inl (imm_old s rfl))
      · exact .inl (.inr ⟨o, imm_old s rfl⟩)
      · exact .inr s
    refine .tup sq ?_
    unfold isRaisedD at hr
    split at hr
    · rename_i p q c e
      cases e
      cases r with
      | cons r1 r =>
      cases r with
      | cons r2 r =>
      cases r with
      | cons r3 r =>
      cases r with
      | nil =>
        obtain ⟨_, hr⟩ := Bool.and_eq_true_iff.mp hr
        obtain ⟨hq, hc⟩ := Bool.and_eq_true_iff.mp hr
        cases r1
        refine .cons (.str _) (.cons ?_ (.cons ?_ .nil))
        · cases r2 <;> first | exact .str _ | (simp [isClsD] at hq)
        · cases r3 <;> first | exact .str _ | exact .non | (simp [isClsD, isNonD] at hc)
    · cases hr
theorem items_imm {K : PySem.W.Frag} {H G : Hp} : ∀ {vs : List V} {ds : List PyData}, DpAll K H vs ds → ds.all isItemD = true → DpAll K G vs ds
  | _, _, .nil, _ => .nil
  | _, _, .cons a r, h => by
    rw [List.all_cons, Bool.and_eq_true] at h
    refine .cons ?_ (items_imm r h.2)
    cases a with
    | non => exact .non
    | bl b => exact .bl b
    | int i => exact .int i
    | str z => exact .str z
    | lst s r => simp [isItemD] at h
    | tup s r => simp [isItemD] at h
/-! ### [e for x in d], d a dict whose keys are tuples, the elements only read and lay new things -/
/-- the heap of a turn, d unlocked, without the list that is made -/
def turnH (d D : Addr) (kvs : List (List L2.Key × V)) (H : Hp) : Hp := hid D (upd H d (.dT kvs))
theorem turnH_mono {d D : Addr} {kvs : List (List L2.Key × V)} {H H' : Hp} (e : Evl.Ex H H') : Evl.Ex (turnH d D kvs H) (turnH d D kvs H') := hid_mono fun a o h => by
  by_cases q : a = d
  · subst q
    rw [upd_same] at h ⊢
    exact h
  · rw [upd_ne q] at h ⊢
    exact e _ _ h
theorem turnH_get {d D c : Addr} {kvs : List (List L2.Key × V)} {H : Hp} {o : HO} (h1 : c ≠ d) (h2 : c ≠ D) (h : H c = some o) : turnH d D kvs H c = some o := hid_of (by rw [upd_ne h1]; exact h) h2
theorem lock_lc {H : Hp} {d : Addr} {kvs : List (List L2.Key × V)} {σ : L2.St} {td te : TE} {j : Nat} {vs : List Nat} {Q : VK} (hd : H d = some (.dT kvs)) (htd : ∀ (od : Obj) (R : V → Hp → Prop), R (.ref d) (upd H d (.frz od (.dT kvs))) → td σ (upd H d (.frz od (.dT kvs))) R) (hn : kvs.length ≤ 1000000)
    (Dat : Nat → Hp → V → Prop) (mono : ∀ i G G' v, Evl.Ex G G' → Dat i G v → Dat i G' v) (hw : ∀ x, wipe ((wipe σ vs).set j (some x)) vs = wipe σ vs)
    (hel : ∀ (i : Nat) (k : List L2.Key) (v : V) (od : Obj) (q D : Addr) (acc : List V) (H' : Hp), kvs[i]? = some (k, v) → Evl.Ex (hid d H) H' → H' d = some (.frz od (.dT kvs)) → H' q = some (.tup (k.map kV)) → H' D = some (.lst acc) → ∀ Q' : VK, (∀ u H'', Evl.Ex H' H'' → Dat i (turnH d D kvs H'') u → Q' u H'') → te ((wipe σ vs).set j (some (.ref q))) H' Q')
    (q : ∀ (D : Addr) (ys : List V) (H' : Hp), Evl.Ex H H' → H D = none → H' D = some (.lst ys) → ys.length = kvs.length → (∀ i u, ys[i]? = some u → Dat i (hid D H') u) → Q (.ref D) H') :
    tLockE (tLc (iKeys td) (gName j) tYes te vs) σ H Q := by
  refine ⟨d, .dT kvs, hd, trivial, fun od => ?_⟩
  refine r_lc ?_
  show td σ _ _
  refine htd od _ ⟨d, od, rfl, .inr ⟨kvs, upd_same, fun D hD => ?_⟩⟩
  have nd : D ≠ d := fun e => by rw [e, upd_same] at hD; cases hD
  have hD0 : H D = none := by rwa [upd_ne nd] at hD
  generalize hF : upd H d (.frz od (.dT kvs)) = F at hD
  have hdF : F d = some (.frz od (.dT kvs)) := by rw [← hF]; exact upd_same
  refine lc_it (walk_keysT (d := d) (o := od) (kvs := kvs)) (fun i H' => Evl.Ex F H' ∧ ∃ acc : List V, H' D = some (.lst acc) ∧ acc.length = i ∧ ∀ i u, acc[i]? = some u → Dat i (turnH d D kvs H') u) ?_ (fun i H' _ p => p.1 _ _ hdF) ?_ ?_
  · exact ⟨Evl.Ex.new hD, [], upd_same, rfl, fun i u h => by simp at h⟩
  · rintro i x H1 H2 hi ⟨e1, acc, h1, h2, h3⟩ ⟨rfl, k, v, q', hk, rfl, hq⟩
    refine r_gN ⟨hw _, r_yes (iteT ?_)⟩
    refine hel i k v od q' D acc H2 hk (ex_lock.trans (hF ▸ e1)) (e1 _ _ hdF) hq h1 _ fun u H3 e3 hu => ⟨acc, e3 _ _ h1, by rw [sizeLine_eq]; omega, Evl.Ex.mut (e1.trans e3) hD, acc ++ [u], upd_same, by rw [List.length_append, h2]; rfl, fun a w ha => ?_⟩
    have eT : turnH d D kvs (upd H3 D (.lst (acc ++ [u]))) = turnH d D kvs H3 := by
      unfold turnH
      rw [upd_comm nd, hid_bag]
    rw [eT]
    by_cases hal : a < acc.length
    · rw [List.getElem?_append_left hal] at ha
      exact mono _ _ _ _ (turnH_mono e3) (h3 a w ha)
    · have ha2 : a = acc.length := by
        have := (List.getElem?_eq_some_iff.mp ha).1
        rw [List.length_append, List.length_singleton] at this
        omega
      subst ha2
      rw [List.getElem?_append_right (Nat.le_refl _), Nat.sub_self] at ha
      have : u = w := by simpa using ha
      subst this
      rw [h2]
      exact hu
  · rintro H' ⟨e1, ys, h1, h2, h3⟩
    exact ⟨e1 _ _ hdF, q D ys _ (ex_unlock hd (hF ▸ e1)) hD0 (by rw [upd_ne nd]; exact h1) h2 h3⟩
theorem valV_uniq {κ : Type} [DecidableEq κ] : ∀ {kvs : List (κ × V)} {k : κ} {v : V}, (kvs.map (·.1)).Nodup → (k, v) ∈ kvs → valV kvs k = some v
  | p :: r, k, v, nd, h => by
    rw [List.map_cons, List.nodup_cons] at nd
    rcases List.mem_cons.mp h with h | h
    · rw [← h]
      exact valV_pos rfl
    · rw [valV_neg fun e => nd.1 (by rw [e]; exact List.mem_map.mpr ⟨_, h, rfl⟩)]
      exact valV_uniq nd.2 h
theorem kv_nodup : ∀ {l : List (List Str)}, l.Nodup → (l.map kvOf).Nodup
  | [], _ => List.nodup_nil
  | z :: r, h => by
    rw [List.nodup_cons] at h
    rw [List.map_cons, List.nodup_cons]
    refine ⟨fun m => ?_, kv_nodup h.2⟩
    obtain ⟨y, hy, e⟩ := List.mem_map.mp m
    exact h.1 (kvOf_inj e ▸ hy)
theorem PKV.at {K : PySem.W.Frag} {G : Hp} {kvs : List (List L2.Key × V)} {t : PTab} {k : List L2.Key} {v : V} (h : PKV K G kvs t) (nd : (t.map (·.1)).Nodup) (m : (k, v) ∈ kvs) : valV kvs k = some v := valV_uniq (by rw [h.keys]; exact kv_nodup nd) m
end WP

set_option Elab.async false
set_option linter.all false
set_option maxRecDepth 100000
set_option maxHeartbeats 1000000
/-! small answers: their texts tell them apart; == of them -/
namespace WP
open PySem PySem.Spec PyProof.Rows L2
def tinyI : PyData → Bool
  | .none => true
  | .int i => decide (i.natAbs < 10 ^ 32)
  | .str z => decide (z.length ≤ 40)
  | _ => false
def tinyD : PyData → Bool
  | .list xs => decide (xs.length ≤ 100) && xs.all tinyI
  | .tuple xs => decide (xs.length ≤ 100) && xs.all tinyI
  | d => tinyI d
/-! ### texts of letters -/
theorem let_print : ∀ c ∈ smallL ++ capsL, Unicode.isPrintable c = true := by decide +kernel
theorem let_mem {c : Nat} (h : Let c) : c ∈ smallL ++ capsL := by
  rcases h with h | h
  · exact List.mem_append_left _ (small_mem.mpr h)
  · exact List.mem_append_right _ (caps_mem.mpr h)
theorem reprChar_let {c : Nat} (h : Let c) : PySem.Builtin.Str.reprChar 39 c = [c] := by
  have p := let_print c (let_mem h)
  unfold Let at h
  unfold PySem.Builtin.Str.reprChar
  have h1 : (c == 39 || c == 92) = false := by
    rw [Bool.or_eq_false_iff, beq_eq_false_iff_ne, beq_eq_false_iff_ne]
    omega
  have h2 : (c == 10) = false := by rw [beq_eq_false_iff_ne]; omega
  have h3 : (c == 13) = false := by rw [beq_eq_false_iff_ne]; omega
  have h4 : (c == 9) = false := by rw [beq_eq_false_iff_ne]; omega
  simp only [h1, h2, h3, h4, p, Bool.false_eq_true, if_false, if_true]
theorem fold_let : ∀ (l : List Nat) (acc : Array Nat), (∀ c ∈ l, Let c) → (l.foldl (fun out c => out ++ (PySem.Builtin.Str.reprChar 39 c).toArray) acc).toList = acc.toList ++ l
  | [], acc, _ => by simp
  | c :: r, acc, h => by
    rw [List.foldl_cons, fold_let r _ fun d hd => h d (List.mem_cons_of_mem _ hd), reprChar_let (h c (List.mem_cons_self ..))]
    simp
theorem repr_let {z : Str} (h : ∀ c ∈ tl z, Let c) : tl (reprText z) = 39 :: (tl z ++ [39]) := by
  have nq : z.cps.contains 39 = false := by
    rw [← Bool.not_eq_true, Array.contains_iff]
    intro m
    have := h 39 (Array.mem_toList_iff.mpr m)
    unfold Let at this
    omega
  have q : reprQuote z = 39 := by
    unfold reprQuote
    rw [nq, Bool.false_and]
    rfl
  unfold reprText
  rw [q]
  show (Array.push _ 39).toList = _
  rw [Array.toList_push, ← Array.foldl_toList, fold_let _ _ h]
  rfl
/-! ### the first sign of a text, by the kind of what is shown -/
/-- small answers -/
def Tiny (d : PyData) : Prop := isAnswerD d = true ∧ tinyD d = true
theorem item_kinds {d : PyData} (h : isItemD d = true) : d = .none ∨ (∃ i, d = .int i) ∨ ∃ z, d = .str z ∧ ∀ c ∈ tl z, Let c := by
  cases d with
  | none => exact .inl rfl
  | int i => exact .inr (.inl ⟨i, rfl⟩)
  | str z =>
    refine .inr (.inr ⟨z, rfl, fun c hc => ?_⟩)
    have h : isWordS z 30 = true := h
    unfold isWordS at h
    obtain ⟨_, h⟩ := Bool.and_eq_true_iff.mp h
    exact .inl (small_mem.mp (of_decide_eq_true (List.all_eq_true.mp h c hc)))
  | _ => simp [isItemD] at h
theorem cls_let {z : Str} (h : isClsS z = true) : ∀ c ∈ tl z, Let c := by
  obtain ⟨c, r, e, h1, h2, _⟩ := isCls_iff.mp h
  intro d hd
  have e : tl z = c :: r := e
  rw [e] at hd
  rcases List.mem_cons.mp hd with rfl | hd
  · exact .inr h1
  · exact h2 d hd
theorem shown_none : tl (PyData.shown .none) = [78, 111, 110, 101] := by rw [PyData.shown]; decide +kernel
theorem shown_int (i : Int) : tl (PyData.shown (.int i)) = if i < 0 then 45 :: TL.numL i.natAbs else TL.numL i.natAbs := by rw [PyData.shown]; exact int_text i
theorem shown_let {z : Str} (h : ∀ c ∈ tl z, Let c) : tl (PyData.shown (.str z)) = 39 :: (tl z ++ [39]) := by rw [PyData.shown]; exact repr_let h
theorem int_shown_inj {i j : Int} (h : tl (PyData.shown (.int i)) = tl (PyData.shown (.int j))) : i = j := by
  rw [shown_int, shown_int] at h
  have n45 : ∀ n, ∀ l, TL.numL n ≠ 45 :: l := fun n l e => TL.numL_free (n := n) (s := 45) (by omega) (by rw [e]; exact List.mem_cons_self ..)
  split at h <;> split at h
  · injection h with _ h
    have := TL.numL_inj h
    omega
  · exact absurd h.symm (n45 _ _)
  · exact absurd h (n45 _ _)
  · have := TL.numL_inj h
    omega
theorem let_shown_inj {y z : Str} (hy : ∀ c ∈ tl y, Let c) (hz : ∀ c ∈ tl z, Let c) (h : tl (PyData.shown (.str y)) = tl (PyData.shown (.str z))) : y = z := by
  rw [shown_let hy, shown_let hz] at h
  injection h with _ h
  exact tl_ext (List.append_cancel_right h)
theorem int_head (i : Int) : ∃ c r, tl (PyData.shown (.int i)) = c :: r ∧ (c = 45 ∨ (48 ≤ c ∧ c ≤ 57)) := by
  rw [shown_int]
  split
  · exact ⟨_, _, rfl, .inl rfl⟩
  · cases e : TL.numL i.natAbs with
    | nil => exact absurd e (TL.numL_ne _)
    | cons c r => exact ⟨c, r, rfl, .inr (TL.numL_digits i.natAbs c (by rw [e]; exact List.mem_cons_self ..))⟩
theorem item_shown_inj {a b : PyData} (ha : isItemD a = true) (hb : isItemD b = true) (h : a.shown = b.shown) : a = b := by
  have h : tl a.shown = tl b.shown := by rw [h]
  rcases item_kinds ha with rfl | ⟨i, rfl⟩ | ⟨y, rfl, hy⟩ <;> rcases item_kinds hb with rfl | ⟨j, rfl⟩ | ⟨z, rfl, hz⟩
  · rfl
  · obtain ⟨c, r, e, q⟩ := int_head j
    rw [shown_none, e] at h
    injection h with h _
    omega
  · rw [shown_none, shown_let hz] at h
    injection h with h _
    omega
  · obtain ⟨c, r, e, q⟩ := int_head i
    rw [shown_none, e] at h
    injection h with h _
    omega
  · rw [int_shown_inj h]
  · obtain ⟨c, r, e, q⟩ := int_head i
    rw [shown_let hz, e] at h
    injection h with h _
    omega
  · rw [shown_none, shown_let hy] at h
    injection h with h _
    omega
  · obtain ⟨c, r, e, q⟩ := int_head j
    rw [shown_let hy, e] at h
    injection h with h _
    omega
  · rw [let_shown_inj hy hz h]
theorem cut39 : ∀ {a b r s : List Nat}, (∀ c ∈ a, c ≠ 39) → (∀ c ∈ b, c ≠ 39) → a ++ 39 :: r = b ++ 39 :: s → a = b ∧ r = s
  | [], [], r, s, _, _, h => by
    injection h with _ h
    exact ⟨rfl, h⟩
  | [], y :: b, r, s, _, hb, h => by
    injection h with h _
    exact absurd h.symm (hb y (List.mem_cons_self ..))
  | x :: a, [], r, s, ha, _, h => by
    injection h with h _
    exact absurd h (ha x (List.mem_cons_self ..))
  | x :: a, y :: b, r, s, ha, hb, h => by
    injection h with e h
    obtain ⟨h1, h2⟩ := cut39 (fun c hc => ha c (List.mem_cons_of_mem _ hc)) (fun c hc => hb c (List.mem_cons_of_mem _ hc)) h
    exact ⟨by rw [e, h1], h2⟩
theorem raised_kinds {ds : List PyData} (h : isRaisedD (.tuple ds) = true) : ∃ (y : Str) (c : PyData), ds = [.str "raises", .str y, c] ∧ isClsS y = true ∧ (c = .none ∨ ∃ z, c = .str z ∧ isClsS z = true) := by
  unfold isRaisedD at h
  split at h
  · rename_i a b c e
    cases e
    obtain ⟨h1, h⟩ := Bool.and_eq_true_iff.mp h
    obtain ⟨h2, h3⟩ := Bool.and_eq_true_iff.mp h
    have ea := of_decide_eq_true h1
    subst ea
    cases b with
    | str y =>
      refine ⟨y, c, rfl, h2, ?_⟩
      rcases Bool.or_eq_true_iff.mp h3 with h3 | h3
      · cases c <;> first | exact .inl rfl | (simp [isNonD] at h3)
      · cases c with
        | str z => exact .inr ⟨z, rfl, h3⟩
        | _ => simp [isClsD] at h3
    | _ => simp [isClsD] at h2
  · cases h
theorem tl_appS (x y : Str) : tl (x ++ y) = tl x ++ tl y := by
  show (x.cps ++ y.cps).toList = _
  exact Array.toList_append
theorem shown_tup3 (a b c : PyData) : tl (PyData.shown (.tuple [a, b, c])) = 40 :: (tl a.shown ++ (44 :: 32 :: (tl b.shown ++ (44 :: 32 :: (tl c.shown ++ [41]))))) := by
  rw [PyData.shown, PyData.shownAll, PyData.shownAll, PyData.shownAll, PyData.shownAll]
  have e1 : tl ("(" : Str) = [40] := by decide +kernel
  have e2 : tl (", " : Str) = [44, 32] := by decide +kernel
  have e3 : tl (")" : Str) = [41] := by decide +kernel
  show tl (("(" : Str) ++ (a.shown ++ ", " ++ (b.shown ++ ", " ++ c.shown)) ++ (")" : Str)) = _
  simp only [tl_appS, e1, e2, e3]
  simp
theorem raised_shown_inj {ds es : List PyData} (ha : isRaisedD (.tuple ds) = true) (hb : isRaisedD (.tuple es) = true) (h : (PyData.tuple ds).shown = (PyData.tuple es).shown) : ds = es := by
  obtain ⟨y, c, rfl, hy, hc⟩ := raised_kinds ha
  obtain ⟨z, d, rfl, hz, hd⟩ := raised_kinds hb
  have h : tl (PyData.shown (.tuple [.str "raises", .str y, c])) = tl (PyData.shown (.tuple [.str "raises", .str z, d])) := by rw [h]
  rw [shown_tup3, shown_tup3] at h
  injection h with _ h
  have h := List.append_cancel_left h
  injection h with _ h
  injection h with _ h
  rw [shown_let (cls_let hy), shown_let (cls_let hz)] at h
  have nq : ∀ {z : Str}, isClsS z = true → ∀ c ∈ tl z, c ≠ 39 := fun {z} hz c hc => by
    have := cls_let hz c hc
    unfold Let at this
    omega
  have h : tl y ++ 39 :: (44 :: 32 :: (tl c.shown ++ [41])) = tl z ++ 39 :: (44 :: 32 :: (tl d.shown ++ [41])) := by
    injection h with _ h
    simpa using h
  obtain ⟨h1, h2⟩ := cut39 (nq hy) (nq hz) h
  injection h2 with _ h2
  injection h2 with _ h2
  have h2 : tl c.shown = tl d.shown := List.append_cancel_right h2
  have ecd : c = d := by
    rcases hc with rfl | ⟨u, rfl, hu⟩ <;> rcases hd with rfl | ⟨v, rfl, hv⟩
    · rfl
    · rw [shown_none, shown_let (cls_let hv)] at h2
      injection h2 with h2 _
      omega
    · rw [shown_none, shown_let (cls_let hu)] at h2
      injection h2 with h2 _
      omega
    · rw [let_shown_inj (cls_let hu) (cls_let hv) h2]
  rw [tl_ext h1, ecd]
theorem tup_head (ds : List PyData) : ∃ r, tl (PyData.shown (.tuple ds)) = 40 :: r := by
  rw [PyData.shown]
  unfold tupleText
  rw [tl_appS, tl_appS, show tl ("(" : Str) = [40] from by decide +kernel]
  exact ⟨_, rfl⟩
/-- answers that are no lists -/
theorem ans_shown_inj {a b : PyData} (ha : isAnswerD a = true) (hb : isAnswerD b = true) (na : ∀ ds, a ≠ .list ds) (nb : ∀ ds, b ≠ .list ds) (h : a.shown = b.shown) : a = b := by
  have kinds : ∀ {d : PyData}, isAnswerD d = true → (∀ ds, d ≠ .list ds) → isItemD d = true ∨ ∃ ds, d = .tuple ds ∧ isRaisedD (.tuple ds) = true := fun {d} hd nd => by
    cases d with
    | list ds => exact absurd rfl (nd ds)
    | tuple ds => exact .inr ⟨ds, rfl, hd⟩
    | none => exact .inl rfl
    | int i => exact .inl rfl
    | bool b => simp [isAnswerD, isItemD, isRaisedD] at hd
    | dict d => simp [isAnswerD, isItemD, isRaisedD] at hd
    | str z =>
      have hd : (isItemD (.str z) || isRaisedD (.str z)) = true := hd
      refine .inl ?_
      rcases Bool.or_eq_true_iff.mp hd with hd | hd
      · exact hd
      · simp [isRaisedD] at hd
  have no : ∀ {d : PyData} {ds : List PyData}, isItemD d = true → d.shown = (PyData.tuple ds).shown → False := fun {d ds} hd e => by
    obtain ⟨r, er⟩ := tup_head ds
    have e : tl d.shown = 40 :: r := by rw [e, er]
    rcases item_kinds hd with rfl | ⟨j, rfl⟩ | ⟨z, rfl, hz⟩
    · rw [shown_none] at e
      injection e with e _
      omega
    · obtain ⟨c, r', e', q⟩ := int_head j
      rw [e'] at e
      injection e with e _
      omega
    · rw [shown_let hz] at e
      injection e with e _
      omega
  rcases kinds ha na with h1 | ⟨ds, rfl, h1⟩ <;> rcases kinds hb nb with h2 | ⟨es, rfl, h2⟩
  · exact item_shown_inj h1 h2 h
  · exact (no h1 h).elim
  · exact (no h2 h.symm).elim
  · rw [raised_shown_inj h1 h2 h]
/-! ### what repr wants -/
structure ShowD (d : PyData) : Prop where
  s : d.showable = true
  n : d.hasDict = false
  p : d.depth ≤ 10
  l : d.shown.length ≤ sizeLine
theorem pow_log2 {i : Int} (h : i.natAbs < 10 ^ 32) : i.natAbs.log2 < 200 := by
  by_cases h0 : i.natAbs = 0
  · rw [h0]; decide
  · refine (Nat.log2_lt h0).mpr (Nat.lt_trans h ?_)
    decide
theorem tinyI_show {d : PyData} (hf : fit d = true) (h : tinyI d = true) : d.showable = true ∧ d.hasDict = false ∧ d.depth = 0 ∧ d.shown.length ≤ 500 := by
  cases d with
  | none => exact ⟨by simp [PyData.showable], by simp [PyData.hasDict], by simp [PyData.depth], by rw [PyData.shown]; decide +kernel⟩
  | int i =>
    have hl := pow_log2 (of_decide_eq_true h)
    refine ⟨by rw [PyData.showable]; exact decide_eq_true (by omega), by simp [PyData.hasDict], by simp [PyData.depth], ?_⟩
    have e := int_text_length_le (a := i) (k := 200) (by decide) hl
    rw [PyData.shown]
    show (Str.ofString (toString i)).length ≤ _
    rw [PySem.ofString_length]
    omega
  | str z =>
    have hz : z.length ≤ 40 := of_decide_eq_true h
    have h2 := (fit_str hf).2
    have e := PySem.StrLaws.reprText_len z (fun c hc => by
      have := Array.all_eq_true'.mp h2 c (Array.mem_toList_iff.mp hc)
      have := of_decide_eq_true this
      omega)
    refine ⟨by simp [PyData.showable], by simp [PyData.hasDict], by simp [PyData.depth], ?_⟩
    rw [PyData.shown]
    omega
  | _ => simp [tinyI] at h
theorem tinyAll_show : ∀ {ds : List PyData}, fitAll ds = true → ds.all tinyI = true → PyData.showableAll ds = true ∧ PyData.hasDictAll ds = false ∧ PyData.depthAll ds = 0 ∧ ((PyData.shownAll ds).map (·.length)).sum ≤ ds.length * 500 ∧ (PyData.shownAll ds).length = ds.length
  | [], _, _ => ⟨by simp [PyData.showableAll], by simp [PyData.hasDictAll], by simp [PyData.depthAll], by simp [PyData.shownAll], by simp [PyData.shownAll]⟩
  | d :: r, hf, h => by
    rw [fitAll, Bool.and_eq_true] at hf
    rw [List.all_cons, Bool.and_eq_true] at h
    obtain ⟨a1, a2, a3, a4⟩ := tinyI_show hf.1 h.1
    obtain ⟨b1, b2, b3, b4, b5⟩ := tinyAll_show hf.2 h.2
    refine ⟨by rw [PyData.showableAll, a1, b1]; rfl, by rw [PyData.hasDictAll, a2, b2]; rfl, by rw [PyData.depthAll, a3, b3]; rfl, ?_, by rw [PyData.shownAll, List.length_cons, List.length_cons, b5]⟩
    rw [PyData.shownAll, List.map_cons, List.sum_cons, List.length_cons, Nat.succ_mul]
    omega
theorem tiny_show {d : PyData} (hf : fit d = true) (h : tinyD d = true) : ShowD d := by
  cases d with
  | list ds =>
    obtain ⟨h1, h2⟩ := Bool.and_eq_true_iff.mp (show (decide (ds.length ≤ 100) && ds.all tinyI) = true from h)
    have h1 := of_decide_eq_true h1
    obtain ⟨b1, b2, b3, b4, b5⟩ := tinyAll_show (fit_list hf).2 h2
    have e := listText_len_le (PyData.shownAll ds)
    refine ⟨by rw [PyData.showable]; exact b1, by rw [PyData.hasDict]; exact b2, by rw [PyData.depth, b3]; omega, ?_⟩
    rw [PyData.shown, sizeLine_eq]
    have : ds.length * 500 ≤ 100 * 500 := Nat.mul_le_mul_right _ h1
    omega
  | tuple ds =>
    obtain ⟨h1, h2⟩ := Bool.and_eq_true_iff.mp (show (decide (ds.length ≤ 100) && ds.all tinyI) = true from h)
    have h1 := of_decide_eq_true h1
    obtain ⟨b1, b2, b3, b4, b5⟩ := tinyAll_show (fit_tuple hf).2 h2
    have e := tupleText_len (PyData.shownAll ds)
    refine ⟨by rw [PyData.showable]; exact b1, by rw [PyData.hasDict]; exact b2, by rw [PyData.depth, b3]; omega, ?_⟩
    rw [PyData.shown, sizeLine_eq]
    have : ds.length * 500 ≤ 100 * 500 := Nat.mul_le_mul_right _ h1
    omega
  | none => obtain ⟨a1, a2, a3, a4⟩ := tinyI_show hf h; exact ⟨a1, a2, by omega, by rw [sizeLine_eq]; omega⟩
  | bool b => simp [tinyD, tinyI] at h
  | int i => obtain ⟨a1, a2, a3, a4⟩ := tinyI_show hf h; exact ⟨a1, a2, by omega, by rw [sizeLine_eq]; omega⟩
  | str z => obtain ⟨a1, a2, a3, a4⟩ := tinyI_show hf h; exact ⟨a1, a2, by omega, by rw [sizeLine_eq]; omega⟩
  | dict d => simp [tinyD, tinyI] at h
/-- a tuple of texts -/
theorem path_show {zs : List Str} (hf : fit (.tuple (zs.map PyData.str)) = true) (h4 : zs.length ≤ 10) (hl : ∀ z ∈ zs, z.length ≤ 1000) : ShowD (.tuple (zs.map PyData.str)) := by
  have all : ∀ {l : List Str}, fitAll (l.map PyData.str) = true → (∀ z ∈ l, z.length ≤ 1000) → PyData.showableAll (l.map PyData.str) = true ∧ PyData.hasDictAll (l.map PyData.str) = false ∧ PyData.depthAll (l.map PyData.str) = 0 ∧ ((PyData.shownAll (l.map PyData.str)).map (·.length)).sum ≤ l.length * 10002 ∧ (PyData.shownAll (l.map PyData.str)).length = l.length := by
    intro l
    induction l with
    | nil => intro _ _; exact ⟨by simp [PyData.showableAll], by simp [PyData.hasDictAll], by simp [PyData.depthAll], by simp [PyData.shownAll], by simp [PyData.shownAll]⟩
    | cons z r ih =>
      intro hf h
      rw [List.map_cons, fitAll, Bool.and_eq_true] at hf
      obtain ⟨b1, b2, b3, b4, b5⟩ := ih hf.2 fun y hy => h y (List.mem_cons_of_mem _ hy)
      have h2 := (fit_str hf.1).2
      have e := PySem.StrLaws.reprText_len z (fun c hc => by
        have := Array.all_eq_true'.mp h2 c (Array.mem_toList_iff.mp hc)
        have := of_decide_eq_true this
        omega)
      have hz := h z (List.mem_cons_self ..)
      have es : (PyData.shown (.str z)).length ≤ 10002 := by rw [PyData.shown]; omega
      refine ⟨by rw [List.map_cons, PyData.showableAll, b1]; simp [PyData.showable], by rw [List.map_cons, PyData.hasDictAll, b2]; simp [PyData.hasDict], by rw [List.map_cons, PyData.depthAll, b3]; simp [PyData.depth], ?_, by rw [List.map_cons, PyData.shownAll, List.length_cons, List.length_cons, b5]⟩
      rw [List.map_cons, PyData.shownAll, List.map_cons, List.sum_cons, List.length_cons, Nat.succ_mul]
      omega
  obtain ⟨b1, b2, b3, b4, b5⟩ := all (fit_tuple hf).2 hl
  have e := tupleText_len (PyData.shownAll (zs.map PyData.str))
  refine ⟨by rw [PyData.showable]; exact b1, by rw [PyData.hasDict]; exact b2, by rw [PyData.depth, b3]; omega, ?_⟩
  rw [PyData.shown, sizeLine_eq]
  have : zs.length * 10002 ≤ 10 * 10002 := Nat.mul_le_mul_right _ h4
  omega
theorem r_reprT {K : PySem.W.Frag} {H : Hp} {Q : VK} {v : V} {d : PyData} (h : Dp K H v d) (s : ShowD d) (q : Q (.str d.shown) H) : rRepr K [v] H Q := ⟨v, d, rfl, h, s.s, s.n, s.p, s.l, q⟩
/-! ### == of small answers -/
theorem eqv_item {a b : PyData} (ha : isItemD a = true) (hb : isItemD b = true) : PyData.eqv a b = true ↔ a = b := by
  rcases item_kinds ha with rfl | ⟨i, rfl⟩ | ⟨y, rfl, hy⟩ <;> rcases item_kinds hb with rfl | ⟨j, rfl⟩ | ⟨z, rfl, hz⟩ <;> simp [PyData.eqv]
theorem eqv_items : ∀ {as bs : List PyData}, as.all isItemD = true → bs.all isItemD = true → (PyData.eqvAll as bs = true ↔ as = bs)
  | [], [], _, _ => by simp [PyData.eqvAll]
  | [], _ :: _, _, _ => by simp [PyData.eqvAll]
  | _ :: _, [], _, _ => by simp [PyData.eqvAll]
  | a :: as, b :: bs, ha, hb => by
    rw [List.all_cons, Bool.and_eq_true] at ha hb
    rw [PyData.eqvAll, Bool.and_eq_true, eqv_item ha.1 hb.1, eqv_items ha.2 hb.2, List.cons.injEq]
theorem eqv_ans {a b : PyData} (ha : isAnswerD a = true) (hb : isAnswerD b = true) : PyData.eqv a b = true ↔ a = b := by
  have str : ∀ {z : Str}, isAnswerD (.str z) = true → isItemD (.str z) = true := fun {z} h => by
    rcases Bool.or_eq_true_iff.mp (show (isItemD (.str z) || isRaisedD (.str z)) = true from h) with h | h
    · exact h
    · simp [isRaisedD] at h
  cases a with
  | bool b => simp [isAnswerD, isItemD, isRaisedD] at ha
  | dict d => simp [isAnswerD, isItemD, isRaisedD] at ha
  | list as =>
    cases b with
    | list bs =>
      rw [PyData.eqv, PyData.list.injEq]
      exact eqv_items ha hb
    | _ => simp [PyData.eqv]
  | tuple as =>
    cases b with
    | tuple bs =>
      obtain ⟨y, c, rfl, hy, hc⟩ := raised_kinds ha
      obtain ⟨z, d, rfl, hz, hd⟩ := raised_kinds hb
      rw [PyData.eqv, PyData.eqvAll, PyData.eqvAll, PyData.eqvAll, PyData.eqvAll]
      rcases hc with rfl | ⟨u, rfl, hu⟩ <;> rcases hd with rfl | ⟨v, rfl, hv⟩ <;> simp [PyData.eqv]
    | _ => simp [PyData.eqv]
  | none => cases b <;> simp [PyData.eqv] <;> simp [isAnswerD, isItemD, isRaisedD] at hb
  | int i => cases b <;> simp [PyData.eqv] <;> simp [isAnswerD, isItemD, isRaisedD] at hb
  | str y => cases b <;> simp [PyData.eqv]
/-! ### a table as data -/
def rowP (t : List Str × PyData) : PyData := .tuple [.tuple (t.1.map PyData.str), t.2]
def tabP (t : PTab) : PyData := .tuple (t.map rowP)
theorem eqv_strs : ∀ (y z : List Str), PyData.eqvAll (y.map PyData.str) (z.map PyData.str) = true ↔ y = z
  | [], [] => by simp [PyData.eqvAll]
  | [], _ :: _ => by simp [PyData.eqvAll]
  | _ :: _, [] => by simp [PyData.eqvAll]
  | a :: y, b :: z => by
    rw [List.map_cons, List.map_cons, PyData.eqvAll, PyData.eqv, Bool.and_eq_true, eqv_strs y z, List.cons.injEq]
    simp
theorem eqv_tab : ∀ {a b : PTab}, (∀ t ∈ a, isAnswerD t.2 = true) → (∀ t ∈ b, isAnswerD t.2 = true) → (PyData.eqvAll (a.map rowP) (b.map rowP) = true ↔ a = b)
  | [], [], _, _ => by simp [PyData.eqvAll]
  | [], _ :: _, _, _ => by simp [PyData.eqvAll]
  | _ :: _, [], _, _ => by simp [PyData.eqvAll]
  | x :: a, y :: b, ha, hb => by
    rw [List.map_cons, List.map_cons, PyData.eqvAll, Bool.and_eq_true, eqv_tab (fun t ht => ha t (List.mem_cons_of_mem _ ht)) (fun t ht => hb t (List.mem_cons_of_mem _ ht)), rowP, rowP, PyData.eqv, PyData.eqvAll, PyData.eqvAll, PyData.eqvAll, PyData.eqv, Bool.and_true, Bool.and_eq_true, eqv_strs, eqv_ans (ha x (List.mem_cons_self ..)) (hb y (List.mem_cons_self ..)), List.cons.injEq, Prod.ext_iff]
theorem eqv_tabB {a b : PTab} (ha : ∀ t ∈ a, isAnswerD t.2 = true) (hb : ∀ t ∈ b, isAnswerD t.2 = true) : PyData.eqv (tabP a) (tabP b) = true ↔ a = b := by
  rw [tabP, tabP, PyData.eqv]
  exact eqv_tab ha hb
theorem tab_fit {t : PTab} (ok : ∀ x ∈ t, RowOk x) (few : t.length ≤ 1000) : fit (tabP t) = true := by
  rw [tabP, fit, List.length_map, decide_eq_true (by omega), Bool.true_and]
  refine fitAll_of fun d hd => ?_
  obtain ⟨x, hx, rfl⟩ := List.mem_map.mp hd
  have o := ok x hx
  rw [rowP, fit, fitAll, fitAll, fitAll, o.pf, o.af]
  rfl
theorem items_depth0 : ∀ {ds : List PyData}, ds.all isItemD = true → PyData.depthAll ds = 0
  | [], _ => by rw [PyData.depthAll]
  | d :: ds, h => by
    rw [List.all_cons, Bool.and_eq_true] at h
    rw [PyData.depthAll, items_depth0 h.2]
    rcases item_kinds h.1 with rfl | ⟨i, rfl⟩ | ⟨y, rfl, hy⟩ <;> simp [PyData.depth]
theorem ans_depth1 {d : PyData} (h : isAnswerD d = true) : d.depth ≤ 1 := by
  cases d with
  | list xs =>
    rw [PyData.depth, items_depth0 (show xs.all isItemD = true from h)]
    omega
  | tuple xs =>
    obtain ⟨y, c, rfl, hy, hc⟩ := raised_kinds h
    rcases hc with rfl | ⟨z, rfl, _⟩ <;> simp [PyData.depth, PyData.depthAll]
  | dict d => simp [isAnswerD, isItemD, isRaisedD] at h
  | _ => rw [PyData.depth]; omega
theorem strs_depth : ∀ (zs : List Str), PyData.depthAll (zs.map PyData.str) = 0
  | [] => by rw [List.map_nil, PyData.depthAll]
  | z :: r => by rw [List.map_cons, PyData.depthAll, strs_depth r, PyData.depth]; rfl
theorem tab_depth : ∀ {t : PTab}, (∀ x ∈ t, isAnswerD x.2 = true) → PyData.depthAll (t.map rowP) ≤ 2
  | [], _ => by simp [PyData.depthAll]
  | x :: t, h => by
    have h1 := ans_depth1 (h x (List.mem_cons_self ..))
    have h2 := tab_depth fun y hy => h y (List.mem_cons_of_mem _ hy)
    rw [List.map_cons, PyData.depthAll, rowP, PyData.depth, PyData.depthAll, PyData.depthAll, PyData.depthAll, PyData.depth, strs_depth]
    omega
theorem tab_shaped {t : PTab} (ok : ∀ x ∈ t, RowOk x) (few : t.length ≤ 1000) : SeqAt.shaped (tabP t) = true := by
  unfold SeqAt.shaped
  rw [fit_lay (tab_fit ok few), Bool.true_and, tabP, PyData.depth]
  have := tab_depth fun x hx => (ok x hx).an
  exact decide_eq_true (by omega)
end WP

set_option Elab.async false
set_option linter.all false
set_option maxRecDepth 100000
set_option maxHeartbeats 1000000
/-! views of what is fixed, further -/
namespace WP
open PySem PySem.Spec PyProof.Rows L2
theorem imm_base2 {H0 H1 H2 : Hp} (e : Evl.Ex H0 H1) (e2 : Evl.Ex H1 H2) : Evl.Ex (imm H1 H2) (imm H0 H2) := fun a o h => by
  have h2 := imm_ex e2 _ _ h
  cases q : H0 a with
  | none => exact imm_new q h2
  | some u =>
    rcases imm_cases h with ⟨h1, _⟩ | ⟨h1, f⟩
    · rw [e _ _ q] at h1; cases h1
    · rw [e _ _ q] at h1
      cases h1
      exact imm_old q f
theorem imm_base3 {H0 H1 H2 : Hp} {D : Addr} {u : HO} (e : Evl.Ex H0 H1) (e2 : Evl.Ex H1 H2) (hD : H1 D = some u) (f : fixed u = false) : Evl.Ex (imm H1 H2) (hid D (imm H0 H2)) := fun a o h => by
  refine hid_of (imm_base2 e e2 _ _ h) fun q => ?_
  rcases imm_cases h with ⟨h1, _⟩ | ⟨h1, k⟩
  · rw [q, hD] at h1; cases h1
  · rw [q, hD] at h1; cases h1; rw [f] at k; cases k
theorem imm_put {H H' : Hp} {D : Addr} {o : HO} (hD : H D = none) : hid D (imm H (upd H' D o)) = hid D (imm H H') := by
  funext a
  unfold hid imm
  by_cases e : a = D
  · rw [if_pos e, if_pos e]
  · rw [if_neg e, if_neg e]
    cases H a with
    | none => exact upd_ne e
    | some u => rfl
end WP

set_option Elab.async false
set_option linter.all false
set_option maxRecDepth 100000
set_option maxHeartbeats 1000000
/-! classes made with defaults; sum, clear, xs[::-1]; what the written part says of a class with fields alone -/
namespace WP
open PySem PySem.Spec PyProof.Rows L2
section
variable {X : Cx}
theorem cr_sumA (K : PySem.W.Frag) (hc : X.calm = true) (h : X.K = K := by rfl) : CallR X (.builtin "sum") (rSum K) := by subst h; exact cr_sum hc
theorem pe_revA (K : PySem.W.Frag) {e : Expr} {te : TE} {p1 p2 p3 pos : Pos} {k : Nat} (h : PE X (.Subscript e (.Slice none none (some (.UnaryOp .USub (.Constant (.int 1) k p1) p2)) p3) pos) (tRevL X.K te)) (hK : X.K = K := by rfl) : PE X (.Subscript e (.Slice none none (some (.UnaryOp .USub (.Constant (.int 1) k p1) p2)) p3) pos) (tRevL K te) := by subst hK; exact h
theorem r_revT {K : PySem.W.Frag} {te : TE} {σ : L2.St} {H : Hp} {Q : VK} (q : te σ H fun x H1 => ∃ a xs, x = .ref a ∧ SqL K H1 a xs ∧ ∀ p, H1 p = none → Q (.ref p) (upd H1 p (.lst xs.reverse))) : tRevL K te σ H Q := q
end
/-! ### C(e, ..), the rest by defaults -/
structure CalCD (P : Program) (w : World) (K : PySem.W.Frag) (mg : Str → Option Value) (base : Heap) (CX : CXT) (k : Nat) (x : Str) (C : Addr) (sp : Sp) (dvs : List V) : Prop where
  ex : ∃ (f : Addr) (fd : FuncData) (ps : List Str) (ds : List Value), FnOk P w K mg base CX k f fd ps sp ∧ Mk K C f ∧ mg x = some (.ref C) ∧ Binds K fd ps ds ∧ Vals dvs ds
section
variable {X : Cx} {CX : CXT} {k j : Nat} {C : Addr} {sp : Sp} {E : XK} {x : Str} {dvs : List V} {p pos : Pos} {e : Expr} {es : List Expr} {t : TA}
theorem pe_mkD (c : CalCD X.prog X.w X.K X.mg X.base CX k x C sp dvs) (hr : Room j X.A) (hk : k + 1 ≤ j) (hg : Gl X x) (hx : Passes CX X E) (ha : PA X (e :: es) t)
    (hdb : (x == ("__debug__" : Str)) = false := by decide) (he : starEach (e :: es) X.env = (false, eval e X.env) :: starEach es X.env := by rfl) (hpl : (backTo pos (starEach es X.env)).any (·.1) = false := by rfl) :
    PE X (.Call (.Name x p) (e :: es) [] pos) (tMake C sp dvs E t) := by
  obtain ⟨f, fd, ps, ds, F, M, hm, hb, hd⟩ := c.ex
  exact pe_make M F (hr.mono hk) hg hm hb hd hx ha hdb he hpl
theorem pe_mkD0 (c : CalCD X.prog X.w X.K X.mg X.base CX k x C sp dvs) (hr : Room j X.A) (hk : k + 1 ≤ j) (hg : Gl X x) (hx : Passes CX X E)
    (hdb : (x == ("__debug__" : Str)) = false := by decide) :
    PE X (.Call (.Name x p) [] [] pos) (tMake C sp dvs E tNil) := by
  obtain ⟨f, fd, ps, ds, F, M, hm, hb, hd⟩ := c.ex
  exact pe_make0 M F (hr.mono hk) hg hm hb hd hx hdb
end
/-- a method with one positional default and one keyword-only one -/
structure AtMK (K : PySem.W.Frag) (C : Addr) (m qual : Str) (st : Stmt) (dv : V) (kw : Str) (kv : V) : Prop where
  ex : ∃ (f : Addr) (fd : FuncData), FunD K m qual (defArgs st) (defBody st) (defScope st) [dv] [(kw, kv)] f fd ∧ Meth K C m f
section
variable {P : Program} {w : World} {K : PySem.W.Frag} {mg : Str → Option Value} {base : Heap}
theorem calCK_ofF {x : Str} {C f : Addr} {fd : FuncData} {qual : Str} {st : Stmt} {ps : List Str} {k : Nat} {sp : Sp} {dvs : List V} {kws : List (Str × V)} (F : FunD K "__init__" qual (defArgs st) (defBody st) (defScope st) dvs kws f fd) (hm : Meth K C "__init__" f) (ok : FnOk P w K mg base (L2.CX P w) k f fd ps sp) (mk : ∃ f, Mk K C f) (hg : mg x = some (.ref C)) (n : Nat) (ks : List Str) (hd : dvs.length = 1)
    (hb : ∀ (T : Addr) (kV doc pm : Value) (an : Option Addr) (cdv ct : Value) (us its ws : List Value), us.length = n + 1 → its.length = 1 → ws.length = ks.length →
      ∃ k, bindArgs (PySem.W.fnOf "__init__" qual (defArgs st) (defBody st) (defScope st) (.ref T) kV doc pm an cdv ct) ⟨us, ks.zip ws⟩ = seqItems? (.ref T) >>= k ∧ k (some its.toArray) = pure (ps.zip (us ++ ws))) : CalCK P w K mg base (L2.CX P w) k x C sp n ks := by
  obtain ⟨f', M⟩ := mk
  obtain rfl : f = f' := by
    have e := hm.at_.symm.trans M.init
    cases e
    rfl
  refine ⟨f, fd, ps, ok, M, hg, ?_⟩
  obtain ⟨its, b⟩ := F.kbindsD (n + 1) ks (fun us _ ws => us ++ ws) (by intro e; rw [e] at hd; cases hd) (fun h1 _ h2 => Vals.app h1 h2) (fun T kV doc pm an cdv ct us its ws h1 h2 h3 => hb T kV doc pm an cdv ct us its ws h1 (h2.trans hd) h3)
  exact b
theorem calCD_ofF {x : Str} {C f : Addr} {fd : FuncData} {qual : Str} {st : Stmt} {ps : List Str} {k : Nat} {sp : Sp} {dvs : List V} {kws : List (Str × V)} {CX : CXT} (F : FunD K "__init__" qual (defArgs st) (defBody st) (defScope st) dvs kws f fd) (hm : Meth K C "__init__" f) (ok : FnOk P w K mg base CX k f fd ps sp) (mk : ∃ f, Mk K C f) (hg : mg x = some (.ref C)) (n j : Nat) (hd : dvs ≠ []) (hk : kws ≠ []) (hn : n + ((dvs.length - j) + kws.length) = ps.length)
    (h : ∀ (T D : Addr) (doc pm : Value) (an : Option Addr) (cdv ct : Value) (us its ks : List Value), us.length = n → its.length = dvs.length → ks.length = kws.length →
      ∃ k, bindArgs (PySem.W.fnOf "__init__" qual (defArgs st) (defBody st) (defScope st) (.ref T) (.ref D) doc pm an cdv ct) ⟨us, []⟩ = seqItems? (.ref T) >>= k ∧ KwChain D ((kws.map (·.1)).zip ks) (k (some its.toArray)) (ps.zip (us ++ (its.drop j ++ ks)))) : CalCD P w K mg base CX k x C sp (dvs.drop j ++ kws.map (·.2)) := by
  obtain ⟨f', M⟩ := mk
  obtain rfl : f = f' := by
    have e := hm.at_.symm.trans M.init
    cases e
    rfl
  obtain ⟨ds, hv, b⟩ := F.binds n j hd hn h hk
  exact ⟨f, fd, ps, ds, ok, M, hg, b, hv⟩
end
/-! ### what the written part says of a class -/
structure ClsT (K : PySem.W.Frag) (C : Addr) : Prop where
  cls : PySem.W.findIn K (.ref C) "__class__" = some (some (.builtin "object.__class__"))
  get : PySem.W.specialIn K (.builtin "object.__class__") "__get__" = some (some (.builtin "getset_descriptor.__get__"))
  tk : PySem.W.takesIn K (.builtin "object.__class__") = some true
  mro : PySem.W.mroIn K C (.type "object") = some true
  one : PySem.W.kitOne K (.ref C) (.ref C) = some true
  bt : ∀ T ∈ btys, PySem.W.kitOne K (.type T) (.ref C) = some false ∧ PySem.W.notFirst K C (.type T) = true
def clsB (K : PySem.W.Frag) (C : Addr) : Bool := He.eqO (PySem.W.findIn K (.ref C) "__class__") (some (some (.builtin "object.__class__"))) && (He.eqO (PySem.W.specialIn K (.builtin "object.__class__") "__get__") (some (some (.builtin "getset_descriptor.__get__"))) && (decide (PySem.W.takesIn K (.builtin "object.__class__") = some true) &&
  (decide (PySem.W.mroIn K C (.type "object") = some true) && (decide (PySem.W.kitOne K (.ref C) (.ref C) = some true) && (btys.all fun T => decide (PySem.W.kitOne K (.type T) (.ref C) = some false) && PySem.W.notFirst K C (.type T))))))
theorem clsT_of {K : PySem.W.Frag} {C : Addr} (h : clsB K C = true) : ClsT K C := by
  unfold clsB at h
  obtain ⟨h1, h⟩ := Bool.and_eq_true_iff.mp h
  obtain ⟨h2, h⟩ := Bool.and_eq_true_iff.mp h
  obtain ⟨h3, h⟩ := Bool.and_eq_true_iff.mp h
  obtain ⟨h4, h⟩ := Bool.and_eq_true_iff.mp h
  obtain ⟨h5, h6⟩ := Bool.and_eq_true_iff.mp h
  refine ⟨He.eqO_ok h1, He.eqO_ok h2, of_decide_eq_true h3, of_decide_eq_true h4, of_decide_eq_true h5, fun T hT => ?_⟩
  have := List.all_eq_true.mp h6 T hT
  obtain ⟨k1, k2⟩ := Bool.and_eq_true_iff.mp this
  exact ⟨of_decide_eq_true k1, k2⟩
theorem ClsT.ty {K : PySem.W.Frag} {C : Addr} {H : Hp} (T : ClsT K C) (cl : Cls K C) {x dx : Addr} {fs : List (Str × V)} (h : H x = some (.ins C dx fs)) : TyX K H (.ref x) (.ref C) := TyX.base (.ins h cl T.cls T.get T.tk T.mro)
theorem ClsT.nfo {K : PySem.W.Frag} {C : Addr} : PySem.W.notFirst K C (.ref C) = true := by
  unfold PySem.W.notFirst
  simp
theorem ClsT.isi {K : PySem.W.Frag} {C : Addr} {H : Hp} {Q : VK} (T : ClsT K C) (cl : Cls K C) {x dx : Addr} {fs : List (Str × V)} (h : H x = some (.ins C dx fs)) (q : Q (.bl true) H) : rIsi K [.ref x, .ref C] H Q := ⟨.ref x, .ref C, _, _, true, rfl, .own C, T.ty cl h, T.one, q⟩
theorem ClsT.isn {K : PySem.W.Frag} {C : Addr} {H : Hp} {Q : VK} (T : ClsT K C) {v : V} {d : PyData} (h : Dp K H v d) (q : Q (.bl false) H) : rIsi K [v, .ref C] H Q := by
  obtain ⟨t, ht, ty⟩ := dp_ty h
  exact ⟨v, .ref C, _, _, false, rfl, .own C, ty, (T.bt t ht).1, q⟩
end WP

set_option Elab.async false
set_option linter.all false
set_option maxRecDepth 100000
set_option maxHeartbeats 1000000
/-! comprehensions with a test whose elements are a function of the item; what is known and what is new; sums -/
namespace WP
open PySem PySem.Spec PyProof.Rows L2
theorem lc_fm {K : PySem.W.Frag} {a : Addr} {xs : List V} {g : TG} {tt : TT} {te : TE} {vs : List Nat} {σ : L2.St} {H1 : Hp} {Qd : Hp → Prop} {D : Addr} (hD : H1 D = none) (hsq : SqL K H1 a xs) (hn : xs.length ≤ 1000000) (p : V → Bool) (f : V → V)
    (hel : ∀ (i : Nat) (x : V), xs[i]? = some x → ∀ H', Evl.Ex H1 H' → H' D ≠ none → ∀ (Q' : VK) (R : Hp → Prop), (p x = true → ∀ H'', Evl.Ex H' H'' → Q' (f x) H'') → (p x = false → ∀ H'', Evl.Ex H' H'' → R H'') → g x (wipe σ vs) H' fun σ2 H2 => wipe σ2 vs = wipe σ vs ∧ tt σ2 H2 fun b H3 => if b = true then te σ2 H3 Q' else R H3)
    (q : ∀ H', Evl.Ex H1 H' → H' D = some (.lst ((xs.filter p).map f)) → Qd H') :
    ∃ W : Nat → Nat → Hp → Prop, (∃ m, W 0 m (upd H1 D (.lst []))) ∧ ∀ i m H, W i m H →
      ((Itl K a).stop i H ∧ Qd H) ∨ ((Itl K a).go i H ∧ ∃ Nx : Hp → Prop, (∀ H', Nx H' → ∃ m', m' < m ∧ W (i + 1) m' H') ∧ ∀ x H', (Itl K a).yld i H x H' → g x (wipe σ vs) H' fun σ2 H2 => wipe σ2 vs = wipe σ vs ∧ tt σ2 H2 fun b H3 =>
        if b = true then te σ2 H3 fun y H4 => ∃ acc, H4 D = some (.lst acc) ∧ acc.length < sizeLine ∧ Nx (upd H4 D (.lst (acc ++ [y]))) else Nx H3) := by
  refine lc_it (walk_list (K := K) (a := a) (xs := xs)) (fun i H' => H' D = some (.lst (((xs.take i).filter p).map f)) ∧ Evl.Ex H1 H') ⟨upd_same, Evl.Ex.new hD⟩ (fun i H' _ h => Evl.ex_l h.2 hsq) ?_ ?_
  · rintro i x H H' hi ⟨h1, h3⟩ ⟨rfl, hx⟩
    have htk : xs.take (i + 1) = xs.take i ++ [x] := by rw [List.take_add_one, hx]; rfl
    refine hel i x hx H' h3 (by rw [h1]; exact fun e => by cases e) _ _ (fun hp H2 e2 => ⟨_, e2 _ _ h1, ?_, ?_, Evl.Ex.mut (h3.trans e2) hD⟩) fun hp H2 e2 => ⟨?_, h3.trans e2⟩
    · rw [List.length_map, sizeLine_eq]
      have := List.length_filter_le p (xs.take i)
      rw [List.length_take] at this
      omega
    · rw [upd_same, htk, List.filter_append, List.filter_cons_of_pos hp, List.filter_nil, List.map_append]
      rfl
    · rw [htk, List.filter_append, List.filter_cons_of_neg (by rw [hp]; exact Bool.false_ne_true), List.filter_nil, List.append_nil]
      exact e2 _ _ h1
  · rintro H' ⟨h1, h3⟩
    rw [List.take_length] at h1
    exact q H' h3 h1
/-- what G tells, and what is new since H -/
def ext (G H H' : Hp) : Hp := fun a => match H a with
  | none => H' a
  | some _ => G a
theorem ext_new {G H H' : Hp} {a : Addr} {o : HO} (h : H a = none) (h' : H' a = some o) : ext G H H' a = some o := by
  unfold ext
  rw [h]
  exact h'
theorem ext_old {G H H' : Hp} (e : Evl.Ex G H) : Evl.Ex G (ext G H H') := fun a o h => by
  unfold ext
  rw [e _ _ h]
  exact h
theorem ext_ex {G H H' : Hp} (e : Evl.Ex G H) (e' : Evl.Ex H H') : Evl.Ex (ext G H H') H' := fun a o h => by
  unfold ext at h
  cases q : H a with
  | none => rw [q] at h; exact h
  | some u => rw [q] at h; exact e' _ _ (e _ _ h)
theorem ext_mono {G H H1 H2 : Hp} (e : Evl.Ex H1 H2) : Evl.Ex (ext G H H1) (ext G H H2) := fun a o h => by
  unfold ext at h ⊢
  cases q : H a with
  | none => rw [q] at h; exact e _ _ h
  | some u => rw [q] at h; exact h
/-- the two values of a pair -/
def fstV (G : Hp) : V → V
  | .ref e => (match G e with | some (.tup (v :: _)) => v | _ => .non)
  | _ => .non
def sndV (G : Hp) : V → V
  | .ref e => (match G e with | some (.tup (_ :: v :: _)) => v | _ => .non)
  | _ => .non
theorem fstV_of {G : Hp} {e : Addr} {a b : V} (h : G e = some (.tup [a, b])) : fstV G (.ref e) = a := by simp only [fstV, h]
theorem sndV_of {G : Hp} {e : Addr} {a b : V} (h : G e = some (.tup [a, b])) : sndV G (.ref e) = b := by simp only [sndV, h]
theorem sum_perm : ∀ {a b : List Int}, a.Perm b → a.sum = b.sum
  | _, _, .nil => rfl
  | _, _, .cons x p => by rw [List.sum_cons, List.sum_cons, sum_perm p]
  | _, _, .swap x y l => by rw [List.sum_cons, List.sum_cons, List.sum_cons, List.sum_cons]; omega
  | _, _, .trans p q => (sum_perm p).trans (sum_perm q)
theorem sum_filter {α : Type} (f : α → Int) (p : α → Bool) : ∀ {l : List α}, (∀ x ∈ l, p x = false → f x = 0) → ((l.filter p).map f).sum = (l.map f).sum
  | [], _ => rfl
  | x :: l, h => by
    have ih := sum_filter f p (l := l) fun y hy => h y (List.mem_cons_of_mem _ hy)
    cases e : p x with
    | true => rw [List.filter_cons_of_pos e, List.map_cons, List.map_cons, List.sum_cons, List.sum_cons, ih]
    | false =>
      rw [List.filter_cons_of_neg (by rw [e]; exact Bool.false_ne_true), List.map_cons, List.sum_cons, ih, h x (List.mem_cons_self ..) e]
      omega
/-! ### isinstance by data -/
def isListD : PyData → Bool
  | .list _ => true
  | _ => false
def isTupD : PyData → Bool
  | .tuple _ => true
  | _ => false
section
variable {K : PySem.W.Frag} {H : Hp} {Q : VK}
theorem r_isiD_list {v : V} {d : PyData} (h : Dp K H v d) (q : Q (.bl (isListD d)) H) : rIsi K [v, .ty "list"] H Q := by
  cases h with
  | non => exact r_isi_non_list q
  | bl b => exact r_isi_bl_list q
  | int i => exact r_isi_int_list q
  | str z => exact r_isi_str_list q
  | lst s r => exact r_isi_lst_list s q
  | tup s r => exact r_isi_tup_list s q
theorem r_isiD_tuple {v : V} {d : PyData} (h : Dp K H v d) (q : Q (.bl (isTupD d)) H) : rIsi K [v, .ty "tuple"] H Q := by
  cases h with
  | non => exact r_isi_non_tuple q
  | bl b => exact r_isi_bl_tuple q
  | int i => exact r_isi_int_tuple q
  | str z => exact r_isi_str_tuple q
  | lst s r => exact r_isi_lst_tuple s q
  | tup s r => exact r_isi_tup_tuple s q
end
theorem list_head (ds : List PyData) : ∃ r, tl (PyData.shown (.list ds)) = 91 :: r := by
  rw [PyData.shown, listText_eq_join]
  rw [tl_appS, tl_appS, show tl ("[" : Str) = [91] from by decide +kernel]
  exact ⟨_, rfl⟩
theorem ans_head {d : PyData} (h : isAnswerD d = true) (nl : isListD d = false) : ∃ c r, tl d.shown = c :: r ∧ c ≠ 91 := by
  have item : ∀ {d : PyData}, isItemD d = true → ∃ c r, tl d.shown = c :: r ∧ c ≠ 91 := fun {d} hd => by
    rcases item_kinds hd with rfl | ⟨j, rfl⟩ | ⟨z, rfl, hz⟩
    · exact ⟨78, _, shown_none, by omega⟩
    · obtain ⟨c, r, e, q⟩ := int_head j
      exact ⟨c, r, e, by omega⟩
    · exact ⟨39, _, shown_let hz, by omega⟩
  cases d with
  | list ds => cases nl
  | tuple ds => obtain ⟨r, e⟩ := tup_head ds; exact ⟨40, r, e, by omega⟩
  | none => exact item rfl
  | int i => exact item rfl
  | bool b => simp [isAnswerD, isItemD, isRaisedD] at h
  | dict d => simp [isAnswerD, isItemD, isRaisedD] at h
  | str z =>
    rcases Bool.or_eq_true_iff.mp (show (isItemD (.str z) || isRaisedD (.str z)) = true from h) with h | h
    · exact item h
    · simp [isRaisedD] at h
/-- equal texts, equal answers: where one is no list -/
theorem shown_eq {a b : PyData} (ha : isAnswerD a = true) (hb : isAnswerD b = true) (na : isListD a = false) : a.shown = b.shown ↔ a = b := by
  refine ⟨fun h => ?_, fun h => by rw [h]⟩
  cases nb : isListD b with
  | true =>
    cases b with
    | list ds =>
      obtain ⟨r, e⟩ := list_head ds
      obtain ⟨c, r', e', n⟩ := ans_head ha na
      rw [h, e] at e'
      injection e' with e' _
      exact absurd e'.symm n
    | _ => cases nb
  | false => exact ans_shown_inj ha hb (fun ds e => by rw [e] at na; cases na) (fun ds e => by rw [e] at nb; cases nb) h
/-- [i for i in range(n) if ..] -/
theorem lc_rf {m : Nat} {H2 : Hp} {L : Addr} {tt : TT} {te : TE} {j : Nat} {vs : List Nat} {σ : L2.St} {Qd : Hp → Prop} (hL : H2 L = none) (hm : m ≤ 1000000) (p : Nat → Bool) (hw : ∀ x, wipe ((wipe σ vs).set j (some x)) vs = wipe σ vs)
    (hel : ∀ i H', i < m → Evl.Ex H2 H' → ∀ (Q' : VK) (R : Hp → Prop), (p i = true → ∀ H'', Evl.Ex H' H'' → Q' (.int (i : Nat)) H'') → (p i = false → ∀ H'', Evl.Ex H' H'' → R H'') → tt ((wipe σ vs).set j (some (.int (0 + (i : Nat))))) H' fun b H3 => if b = true then te ((wipe σ vs).set j (some (.int (0 + (i : Nat))))) H3 Q' else R H3)
    (q : ∀ H', Evl.Ex H2 H' → H' L = some (.lst (((List.range m).filter p).map fun i => V.int (i : Nat))) → Qd H') :
    ∃ W : Nat → Nat → Hp → Prop, (∃ m, W 0 m (upd H2 L (.lst []))) ∧ ∀ i k H, W i k H →
      ((Itr 0 m).stop i H ∧ Qd H) ∨ ((Itr 0 m).go i H ∧ ∃ Nx : Hp → Prop, (∀ H', Nx H' → ∃ m', m' < k ∧ W (i + 1) m' H') ∧ ∀ x H', (Itr 0 m).yld i H x H' → gName j x (wipe σ vs) H' fun σ2 H2 => wipe σ2 vs = wipe σ vs ∧ tt σ2 H2 fun b H3 =>
        if b = true then te σ2 H3 fun y H4 => ∃ acc, H4 L = some (.lst acc) ∧ acc.length < sizeLine ∧ Nx (upd H4 L (.lst (acc ++ [y]))) else Nx H3) := by
  refine lc_range (lo := 0) (n := m) (fun i H' => H' L = some (.lst (((List.range i).filter p).map fun i => V.int (i : Nat))) ∧ Evl.Ex H2 H') ⟨upd_same, Evl.Ex.new hL⟩ ?_ fun H' ⟨h1, e1⟩ => q H' e1 h1
  rintro i H' hi ⟨h1, e1⟩
  refine ⟨hw _, hel i H' hi e1 _ _ (fun hp H3 e2 => ⟨_, e2 _ _ h1, ?_, ?_, Evl.Ex.mut (e1.trans e2) hL⟩) fun hp H3 e2 => ⟨?_, e1.trans e2⟩⟩
  · rw [List.length_map, sizeLine_eq]
    have := List.length_filter_le p (List.range i)
    rw [List.length_range] at this
    omega
  · rw [upd_same, List.range_succ, List.filter_append, List.filter_cons_of_pos hp, List.filter_nil, List.map_append]
    rfl
  · rw [List.range_succ, List.filter_append, List.filter_cons_of_neg (by rw [hp]; exact Bool.false_ne_true), List.filter_nil, List.append_nil]
    exact e2 _ _ h1
theorem ints_dp {K : PySem.W.Frag} {H : Hp} : ∀ (l : List Nat), DpAll K H (l.map fun i => V.int (i : Nat)) (l.map fun i => PyData.int (i : Nat))
  | [] => .nil
  | x :: r => .cons (.int _) (ints_dp r)
theorem ints_shaped (l : List Nat) : SeqAt.shaped (.list (l.map fun i => PyData.int (i : Nat))) = true := by
  have h1 : ∀ l : List Nat, PyData.canLayAll0 (l.map fun i => PyData.int (i : Nat)) = true ∧ PyData.depthAll (l.map fun i => PyData.int (i : Nat)) = 0 := fun l => by
    induction l with
    | nil => exact ⟨by simp [PyData.canLayAll0], by simp [PyData.depthAll]⟩
    | cons x r ih => exact ⟨by rw [List.map_cons, PyData.canLayAll0, ih.1]; simp [PyData.canLay0], by rw [List.map_cons, PyData.depthAll, ih.2]; simp [PyData.depth]⟩
  unfold SeqAt.shaped
  rw [PyData.canLay0, (h1 l).1, PyData.depth, (h1 l).2]
  rfl
theorem CallOk.len {z : Str} (h : CallOk z) : z.length ≤ 1000 := by
  obtain ⟨name, vs, h1, h2, h3, h4⟩ := h
  obtain ⟨n1, n2, n3⟩ := name_small h1
  have hj := join_len (m := 40) (parts := vs.map cstL) fun p hp => by
    obtain ⟨v, hv, rfl⟩ := List.mem_map.mp hp
    exact cst_len (h2 v hv)
  rw [List.length_map] at hj
  have e : z.length = (tl z).length := rfl
  rw [e, h4, List.length_append, List.length_cons, List.length_append]
  show name.length + (_ + 1 + 1) ≤ _
  omega
theorem iteB_cut {c : Bool} {s1 s2 : TS} {D : Ends} {σ : L2.St} {H : Hp} (P : L2.St → Hp → Prop) (h1 : c = true → ∀ D' : Ends, (∀ σ' H', P σ' H' → D'.nx σ' H') → s1 D' σ H) (h2 : c = false → ∀ D' : Ends, (∀ σ' H', P σ' H' → D'.nx σ' H') → s2 D' σ H) (k : ∀ σ' H', P σ' H' → D.nx σ' H') : if c = true then s1 D σ H else s2 D σ H := by
  cases c with
  | true => rw [if_pos rfl]; exact h1 rfl D k
  | false => rw [if_neg Bool.false_ne_true]; exact h2 rfl D k
/-- how long the tuple is that comes first in a pair -/
def plen (G : Hp) (v : V) : Nat := match fstV G v with
  | .ref p => (match G p with | some (.tup zs) => zs.length | _ => 0)
  | _ => 0
theorem plen_of {G : Hp} {e p : Addr} {b : V} {zs : List V} (h : G e = some (.tup [.ref p, b])) (hp : G p = some (.tup zs)) : plen G (.ref e) = zs.length := by
  simp only [plen, fstV_of h, hp]
end WP

set_option Elab.async false
set_option linter.all false
set_option maxRecDepth 100000
set_option maxHeartbeats 4000000
namespace WP
open PySem PySem.Spec PyProof.Rows L2
local macro_rules | `(tactic| walk_at "rd") => `(tactic| repeat (first
  | with_reducible refine r_seq ?_ | with_reducible refine r_var rfl ?_ | with_reducible refine r_c ?_ | with_reducible refine r_op ?_ | with_reducible refine r_cons ?_ | with_reducible refine r_nil ?_
  | with_reducible refine r_cb ?_ | with_reducible refine r_call ?_ | with_reducible refine r_test ?_ | with_reducible refine r_B ?_ | with_reducible refine r_bl ?_ | with_reducible refine r_asg ?_ | with_reducible refine r_asgS ?_
  | with_reducible refine r_ret ?_ | with_reducible refine r_drop ?_ | with_reducible refine r_ifS ?_ | with_reducible refine r_if ?_ | with_reducible refine r_and ?_ | with_reducible refine r_or ?_ | with_reducible refine r_not ?_
  | with_reducible refine r_andV ?_ | with_reducible refine r_orV ?_ | with_reducible refine r_notV ?_ | with_reducible refine r_chain ?_ | with_reducible refine r_sl ?_ | with_reducible refine r_nopart ?_ | with_reducible refine r_part ?_
  | with_reducible refine r_intO ?_ | with_reducible refine r_two ?_ | with_reducible refine r_m1 ?_ | with_reducible refine r_bm ?_ | with_reducible refine r_next ?_ | with_reducible refine r_for ?_ | with_reducible refine r_rng1 ?_ | with_reducible refine r_iList ?_ | with_reducible refine r_iAny ?_ | with_reducible refine r_lc ?_ | with_reducible refine r_yes ?_ | with_reducible refine r_gN ?_ | with_reducible refine r_par ?_ | with_reducible refine r_un ?_ | with_reducible refine r_brk ?_ | with_reducible refine r_cont ?_
  | with_reducible refine r_I0 ?_ | with_reducible refine r_U ?_ | with_reducible refine r_addI ?_ | with_reducible refine r_abs ?_ | with_reducible refine r_intI ?_ | with_reducible refine r_max2 ?_ | with_reducible refine r_min2 ?_
  | with_reducible refine r_ltI ?_ | with_reducible refine r_leI ?_ | with_reducible refine r_gtI ?_ | with_reducible refine r_geI ?_ | with_reducible refine r_isN_non ?_ | with_reducible refine r_isN_int ?_ | with_reducible refine r_isN_str ?_ | with_reducible refine r_isN_bl ?_ | with_reducible refine r_isN_ref ?_ | with_reducible refine r_isN ?_ | with_reducible refine r_isB ?_ | with_reducible refine r_isnotN_non ?_ | with_reducible refine r_isnotN_int ?_ | with_reducible refine r_isnotN_str ?_ | with_reducible refine r_isnotN_bl ?_ | with_reducible refine r_isnotN_ref ?_ | with_reducible refine r_isnotN ?_ | with_reducible refine r_isnotB ?_
  | with_reducible refine r_inS ?_ | with_reducible refine r_eqS rfl ?_ | with_reducible refine r_neS rfl ?_ | with_reducible refine r_lst ?_ | with_reducible refine r_tup ?_ | with_reducible refine iteT ?_ | with_reducible refine iteF ?_))
local macro_rules | `(tactic| walk_at "isi") => `(tactic| (first
  | with_reducible refine r_isi_non_int ?_
  | with_reducible refine r_isi_non_str ?_
  | with_reducible refine r_isi_non_list ?_
  | with_reducible refine r_isi_non_tuple ?_
  | with_reducible refine r_isi_non_bool ?_
  | with_reducible refine r_isi_bl_int ?_
  | with_reducible refine r_isi_bl_str ?_
  | with_reducible refine r_isi_bl_list ?_
  | with_reducible refine r_isi_bl_tuple ?_
  | with_reducible refine r_isi_bl_bool ?_
  | with_reducible refine r_isi_int_int ?_
  | with_reducible refine r_isi_int_str ?_
  | with_reducible refine r_isi_int_list ?_
  | with_reducible refine r_isi_int_tuple ?_
  | with_reducible refine r_isi_int_bool ?_
  | with_reducible refine r_isi_str_int ?_
  | with_reducible refine r_isi_str_str ?_
  | with_reducible refine r_isi_str_list ?_
  | with_reducible refine r_isi_str_tuple ?_
  | with_reducible refine r_isi_str_bool ?_
  | with_reducible refine r_isi_lst_int (SqL.of (by assumption)) ?_
  | with_reducible refine r_isi_lst_str (SqL.of (by assumption)) ?_
  | with_reducible refine r_isi_lst_list (SqL.of (by assumption)) ?_
  | with_reducible refine r_isi_lst_tuple (SqL.of (by assumption)) ?_
  | with_reducible refine r_isi_lst_bool (SqL.of (by assumption)) ?_
  | with_reducible refine r_isi_tup_int (SqT.of (by assumption)) ?_
  | with_reducible refine r_isi_tup_str (SqT.of (by assumption)) ?_
  | with_reducible refine r_isi_tup_list (SqT.of (by assumption)) ?_
  | with_reducible refine r_isi_tup_tuple (SqT.of (by assumption)) ?_
  | with_reducible refine r_isi_tup_bool (SqT.of (by assumption)) ?_))
local macro_rules | `(tactic| walk_at "rs") => `(tactic| (first
  | ((with_reducible refine iteTc ?hc ?_); (case hc => rfl)) | ((with_reducible refine iteFc ?hc ?_); (case hc => rfl))
  | walk_at "isi"
  | refine r_ixL (SqL.of (by assumption)) rfl ?_ | refine r_ixL (SqL.of upd_same) rfl ?_
  | refine r_I (C := fun _ j => 0 < j) (by first | decide | assumption | omega) ?_
  | refine r_mulI (.inl ⟨by decide, by decide⟩) ?_ | refine r_mulI (.inr ⟨by decide, by decide⟩) ?_ | refine r_mulI (.inr ⟨by omega, by omega⟩) ?_ | refine r_mulI (.inl ⟨by omega, by omega⟩) ?_
  | refine r_I (wide_div (b := 64) (by decide) (by decide) (by decide) (by decide)) ?_
  | refine r_I (C := CPow) ⟨by decide, by decide, by decide⟩ ?_
  | refine r_setL (by assumption) rfl ?_ | refine r_setL upd_same rfl ?_))
local macro_rules | `(tactic| walk_at "rx") => `(tactic| (walk_at "rd"; (repeat (walk_at "rs"; walk_at "rd"))))

def top (i : Nat) : Stmt := PySem.Challenge.pw_whatpasses_k34_parts_made.main.body.getD i (.Pass ⟨0, 0, 0, 0⟩)
abbrev s_is_number : Stmt := top 10
abbrev s_is_word : Stmt := top 11
abbrev s_is_item : Stmt := top 12
abbrev s_is_class_name : Stmt := top 8
abbrev s_is_raised : Stmt := top 13
abbrev s_is_answer : Stmt := top 14
abbrev s_is_name : Stmt := top 20
abbrev s_is_number_text : Stmt := top 21
abbrev s_is_constant_text : Stmt := top 22
abbrev s_is_call : Stmt := top 23
abbrev s_is_path : Stmt := top 24
abbrev s_law_take : Stmt := top 37
abbrev s_law_of : Stmt := top 38
abbrev s_law_word : Stmt := top 41
abbrev s_law_number : Stmt := top 39
abbrev s_law_bag : Stmt := top 36
abbrev s_law_any_constant : Stmt := top 49
abbrev s_law_written : Stmt := top 40
abbrev s_law_call_text : Stmt := top 50
abbrev s_law_keywords : Stmt := top 51
abbrev s_law_any_name : Stmt := top 52
abbrev s_law_any_call : Stmt := top 53
abbrev s_weight : Stmt := top 15
abbrev s_copy_of : Stmt := top 26
abbrev s_is_entry : Stmt := top 27
abbrev s_BadPart_init : Stmt := inClass (top 3) 0
abbrev s_Part_init : Stmt := inClass (top 28) 0
abbrev s_law_name : Stmt := top 42
abbrev s_law_family : Stmt := top 43
abbrev s_law_core : Stmt := top 44
abbrev s_law_path : Stmt := top 45
abbrev s_law_near : Stmt := top 46
abbrev s_law_some_texts : Stmt := top 54
abbrev s_law_any_answer : Stmt := top 47
abbrev s_law_drawn_pairs : Stmt := top 48
abbrev s_law_copy : Stmt := top 55
abbrev s_Part_entries : Stmt := inClass (top 28) 1
abbrev s_Part_weight : Stmt := inClass (top 28) 2
abbrev s_Part_len : Stmt := inClass (top 28) 3
abbrev s_Part_eq : Stmt := inClass (top 28) 4
abbrev s_law_weight : Stmt := top 30
abbrev s_law_answer_at : Stmt := top 31
abbrev s_law_kept : Stmt := top 32
abbrev s_law_is_integer : Stmt := top 35
abbrev s_law_equal : Stmt := top 33
abbrev s_law_are_entries : Stmt := top 34
abbrev s_law_is_right : Stmt := top 56
abbrev s_law : Stmt := top 57
def steps : Nat := 12000
abbrev PW : Program := PySem.Challenge.pw_whatpasses_k34_parts_made
def xd : ExD := ⟨"BadPart", "BadPart.__init__", s_BadPart_init⟩
def xs : List ExD := [xd]
def ydE : PaD := ⟨propA "Part" "entries", "entries", "Part.entries", s_Part_entries⟩
def ydW : PaD := ⟨propA "Part" "weight", "weight", "Part.weight", s_Part_weight⟩
def ys : List PaD := [ydE, ydW]
def ex (K : PySem.W.Frag) : Bool := He.tupB K "KEYWORDS" (kwS.map He.Dv.str) && (excB PW K xd && (clsB K (He.ga K "Part") && ((propB K (He.ga K "Part") "entries" && propB K (He.ga K "Part") "weight") && ((ydE.ok K && ydW.ok K) && tupAtB K (dflAd ("Part", some "__init__") 0 K) []))))
def d_is_class_name : He.DefD := ⟨("is_class_name", none), "is_class_name", "is_class_name", defArgs s_is_class_name, defBody s_is_class_name, defScope s_is_class_name, [], []⟩
def d_is_number : He.DefD := ⟨("is_number", none), "is_number", "is_number", defArgs s_is_number, defBody s_is_number, defScope s_is_number, [], []⟩
def d_is_word : He.DefD := ⟨("is_word", none), "is_word", "is_word", defArgs s_is_word, defBody s_is_word, defScope s_is_word, [(.int 30)], []⟩
def d_is_item : He.DefD := ⟨("is_item", none), "is_item", "is_item", defArgs s_is_item, defBody s_is_item, defScope s_is_item, [], []⟩
def d_is_raised : He.DefD := ⟨("is_raised", none), "is_raised", "is_raised", defArgs s_is_raised, defBody s_is_raised, defScope s_is_raised, [], []⟩
def d_is_answer : He.DefD := ⟨("is_answer", none), "is_answer", "is_answer", defArgs s_is_answer, defBody s_is_answer, defScope s_is_answer, [], []⟩
def d_weight : He.DefD := ⟨("weight_answers", none), "weight", "weight", defArgs s_weight, defBody s_weight, defScope s_weight, [], []⟩
def d_is_name : He.DefD := ⟨("is_name", none), "is_name", "is_name", defArgs s_is_name, defBody s_is_name, defScope s_is_name, [], []⟩
def d_is_number_text : He.DefD := ⟨("is_number_text", none), "is_number_text", "is_number_text", defArgs s_is_number_text, defBody s_is_number_text, defScope s_is_number_text, [], []⟩
def d_is_constant_text : He.DefD := ⟨("is_constant_text", none), "is_constant_text", "is_constant_text", defArgs s_is_constant_text, defBody s_is_constant_text, defScope s_is_constant_text, [], []⟩
def d_is_call : He.DefD := ⟨("is_call", none), "is_call", "is_call", defArgs s_is_call, defBody s_is_call, defScope s_is_call, [], []⟩
def d_is_path : He.DefD := ⟨("is_path", none), "is_path", "is_path", defArgs s_is_path, defBody s_is_path, defScope s_is_path, [], [("ageing", .bl false)]⟩
def d_copy_of : He.DefD := ⟨("copy_of", none), "copy_of", "copy_of", defArgs s_copy_of, defBody s_copy_of, defScope s_copy_of, [], []⟩
def d_is_entry : He.DefD := ⟨("is_entry", none), "is_entry", "is_entry", defArgs s_is_entry, defBody s_is_entry, defScope s_is_entry, [], []⟩
def d_Part_init : He.DefD := ⟨("Part", some "__init__"), "__init__", "Part.__init__", defArgs s_Part_init, defBody s_Part_init, defScope s_Part_init, [.adr (dflAd ("Part", some "__init__") 0)], [("ageing", .bl false)]⟩
def d_Part_len : He.DefD := ⟨("Part", some "__len__"), "__len__", "Part.__len__", defArgs s_Part_len, defBody s_Part_len, defScope s_Part_len, [], []⟩
def d_Part_eq : He.DefD := ⟨("Part", some "__eq__"), "__eq__", "Part.__eq__", defArgs s_Part_eq, defBody s_Part_eq, defScope s_Part_eq, [], []⟩
def d_law_weight : He.DefD := ⟨("_law_weight", none), "_law_weight", "_law_weight", defArgs s_law_weight, defBody s_law_weight, defScope s_law_weight, [], []⟩
def d_law_answer_at : He.DefD := ⟨("_law_answer_at", none), "_law_answer_at", "_law_answer_at", defArgs s_law_answer_at, defBody s_law_answer_at, defScope s_law_answer_at, [], []⟩
def d_law_kept : He.DefD := ⟨("_law_kept", none), "_law_kept", "_law_kept", defArgs s_law_kept, defBody s_law_kept, defScope s_law_kept, [], []⟩
def d_law_equal : He.DefD := ⟨("_law_equal", none), "_law_equal", "_law_equal", defArgs s_law_equal, defBody s_law_equal, defScope s_law_equal, [], []⟩
def d_law_are_entries : He.DefD := ⟨("_law_are_entries", none), "_law_are_entries", "_law_are_entries", defArgs s_law_are_entries, defBody s_law_are_entries, defScope s_law_are_entries, [], []⟩
def d_law_is_integer : He.DefD := ⟨("_law_is_integer", none), "_law_is_integer", "_law_is_integer", defArgs s_law_is_integer, defBody s_law_is_integer, defScope s_law_is_integer, [], []⟩
def d_law_bag : He.DefD := ⟨("_law_bag", none), "_law_bag", "_law_bag", defArgs s_law_bag, defBody s_law_bag, defScope s_law_bag, [], []⟩
def d_law_take : He.DefD := ⟨("_law_take", none), "_law_take", "_law_take", defArgs s_law_take, defBody s_law_take, defScope s_law_take, [], []⟩
def d_law_of : He.DefD := ⟨("_law_of", none), "_law_of", "_law_of", defArgs s_law_of, defBody s_law_of, defScope s_law_of, [], []⟩
def d_law_number : He.DefD := ⟨("_law_number", none), "_law_number", "_law_number", defArgs s_law_number, defBody s_law_number, defScope s_law_number, [], []⟩
def d_law_written : He.DefD := ⟨("_law_written", none), "_law_written", "_law_written", defArgs s_law_written, defBody s_law_written, defScope s_law_written, [], []⟩
def d_law_word : He.DefD := ⟨("_law_word", none), "_law_word", "_law_word", defArgs s_law_word, defBody s_law_word, defScope s_law_word, [], []⟩
def d_law_name : He.DefD := ⟨("_law_name", none), "_law_name", "_law_name", defArgs s_law_name, defBody s_law_name, defScope s_law_name, [], []⟩
def d_law_family : He.DefD := ⟨("_law_family", none), "_law_family", "_law_family", defArgs s_law_family, defBody s_law_family, defScope s_law_family, [], []⟩
def d_law_core : He.DefD := ⟨("_law_core", none), "_law_core", "_law_core", defArgs s_law_core, defBody s_law_core, defScope s_law_core, [], []⟩
def d_law_path : He.DefD := ⟨("_law_path", none), "_law_path", "_law_path", defArgs s_law_path, defBody s_law_path, defScope s_law_path, [], []⟩
def d_law_near : He.DefD := ⟨("_law_near", none), "_law_near", "_law_near", defArgs s_law_near, defBody s_law_near, defScope s_law_near, [], []⟩
def d_law_any_answer : He.DefD := ⟨("_law_any_answer", none), "_law_any_answer", "_law_any_answer", defArgs s_law_any_answer, defBody s_law_any_answer, defScope s_law_any_answer, [], []⟩
def d_law_drawn_pairs : He.DefD := ⟨("_law_drawn_pairs", none), "_law_drawn_pairs", "_law_drawn_pairs", defArgs s_law_drawn_pairs, defBody s_law_drawn_pairs, defScope s_law_drawn_pairs, [], []⟩
def d_law_any_constant : He.DefD := ⟨("_law_any_constant", none), "_law_any_constant", "_law_any_constant", defArgs s_law_any_constant, defBody s_law_any_constant, defScope s_law_any_constant, [], []⟩
def d_law_call_text : He.DefD := ⟨("_law_call_text", none), "_law_call_text", "_law_call_text", defArgs s_law_call_text, defBody s_law_call_text, defScope s_law_call_text, [], []⟩
def d_law_keywords : He.DefD := ⟨("_law_keywords", none), "_law_keywords", "_law_keywords", defArgs s_law_keywords, defBody s_law_keywords, defScope s_law_keywords, [], []⟩
def d_law_any_name : He.DefD := ⟨("_law_any_name", none), "_law_any_name", "_law_any_name", defArgs s_law_any_name, defBody s_law_any_name, defScope s_law_any_name, [], []⟩
def d_law_any_call : He.DefD := ⟨("_law_any_call", none), "_law_any_call", "_law_any_call", defArgs s_law_any_call, defBody s_law_any_call, defScope s_law_any_call, [], []⟩
def d_law_some_texts : He.DefD := ⟨("_law_some_texts", none), "_law_some_texts", "_law_some_texts", defArgs s_law_some_texts, defBody s_law_some_texts, defScope s_law_some_texts, [], []⟩
def d_law_copy : He.DefD := ⟨("_law_copy", none), "_law_copy", "_law_copy", defArgs s_law_copy, defBody s_law_copy, defScope s_law_copy, [], []⟩
def d_law_is_right : He.DefD := ⟨("_law_is_right", none), "_law_is_right", "_law_is_right", defArgs s_law_is_right, defBody s_law_is_right, defScope s_law_is_right, [], []⟩
def d_law : He.DefD := ⟨("law", none), "law", "law", defArgs s_law, defBody s_law, defScope s_law, [], []⟩
def fn : List He.DefD := [d_is_class_name, d_is_number, d_is_word, d_is_item, d_is_raised, d_is_answer, d_weight, d_is_name, d_is_number_text, d_is_constant_text, d_is_call, d_is_path, d_copy_of, d_is_entry, d_Part_init, d_Part_len, d_Part_eq, d_law_weight, d_law_answer_at, d_law_kept, d_law_equal, d_law_are_entries, d_law_is_integer, d_law_bag, d_law_take, d_law_of, d_law_number, d_law_written, d_law_word, d_law_name, d_law_family, d_law_core, d_law_path, d_law_near, d_law_any_answer, d_law_drawn_pairs, d_law_any_constant, d_law_call_text, d_law_keywords, d_law_any_name, d_law_any_call, d_law_some_texts, d_law_copy, d_law_is_right, d_law]
def fa0 : List He.Fa := [.glo "is_class_name", .glo "is_number", .glo "is_word", .glo "is_item", .glo "is_raised", .glo "is_answer", .glo "weight_answers", .glo "is_name", .glo "is_number_text", .glo "is_constant_text", .glo "is_call", .glo "is_path", .glo "copy_of", .glo "is_entry", .meth "Part" "__init__", .meth "Part" "__len__", .meth "Part" "__eq__", .glo "_law_weight", .glo "_law_answer_at", .glo "_law_kept", .glo "_law_equal", .glo "_law_are_entries", .glo "_law_is_integer", .glo "_law_bag", .glo "_law_take", .glo "_law_of", .glo "_law_number", .glo "_law_written", .glo "_law_word", .glo "_law_name", .glo "_law_family", .glo "_law_core", .glo "_law_path", .glo "_law_near", .glo "_law_any_answer", .glo "_law_drawn_pairs", .glo "_law_any_constant", .glo "_law_call_text", .glo "_law_keywords", .glo "_law_any_name", .glo "_law_any_call", .glo "_law_some_texts", .glo "_law_copy", .glo "_law_is_right", .glo "law", .str "SMALL" "abcdefghijklmnopqrstuvwxyz", .str "CAPITALS" "ABCDEFGHIJKLMNOPQRSTUVWXYZ", .str "DIGITS" "0123456789", .glo "KEYWORDS", .glo "BadPart", .glo "Part", .free "super", .free "sum", .noat "BadPart" "at", .cls "Part", .noat "Part" "ageing", .noat "Part" "table", .mkr "Part"]
def fa : List He.Fa := blFa ++ fa0
def loose0 : List PySem.Str := ["_wall", "WhatpassesError", "BadPart", "Raised", "SMALL", "CAPITALS", "is_class_name", "is_number", "is_word", "is_item", "is_raised", "is_answer", "weight", "weight_answers", "DIGITS", "KEYWORDS", "is_name", "is_number_text", "is_constant_text", "is_call", "is_path", "copy_of", "is_entry", "Part", "_law_weight", "_law_answer_at", "_law_kept", "_law_equal", "_law_are_entries", "_law_is_integer"]
def loose1 : List PySem.Str := ["_law_bag", "_law_take", "_law_of", "_law_number", "_law_written", "_law_word", "_law_name", "_law_family", "_law_core", "_law_path", "_law_near", "_law_any_answer", "_law_drawn_pairs", "_law_any_constant", "_law_call_text", "_law_keywords", "_law_any_name", "_law_any_call", "_law_some_texts", "_law_copy", "_law_is_right"]
def loose : List PySem.Str := loose0 ++ loose1
abbrev R : PySem.W.OpenRow := PySem.W.OpenLaw.row PySem.Challenge.rw_whatpasses_k34_parts_made
abbrev hk : PySem.W.Hook := hookE3 6 fa fn xs ys ex
def ob (s : PySem.W.SharedT) : AlF := obsE3 6 fa fn xs ys ex (HandSHeadRun.getT s)
theorem ob_eq (s : PySem.W.SharedT) : ob s = hk.obs s.abs := obsE3_eq (HandSHeadRun.getT_eq s)
theorem run (w : World) : HandSHeadRun.RunEq R (PySem.W.view R.prog [57]) hk ob steps loose w := by
  intro os
  kernel_rfl
end WP

set_option Elab.async false
set_option linter.all false
set_option maxRecDepth 100000
set_option maxHeartbeats 4000000
namespace WP
open PySem PySem.Spec PyProof.Rows L2
local macro_rules | `(tactic| walk_at "rd") => `(tactic| repeat (first
  | with_reducible refine r_seq ?_ | with_reducible refine r_var rfl ?_ | with_reducible refine r_c ?_ | with_reducible refine r_op ?_ | with_reducible refine r_cons ?_ | with_reducible refine r_nil ?_
  | with_reducible refine r_cb ?_ | with_reducible refine r_call ?_ | with_reducible refine r_test ?_ | with_reducible refine r_B ?_ | with_reducible refine r_bl ?_ | with_reducible refine r_asg ?_ | with_reducible refine r_asgS ?_
  | with_reducible refine r_ret ?_ | with_reducible refine r_drop ?_ | with_reducible refine r_ifS ?_ | with_reducible refine r_if ?_ | with_reducible refine r_and ?_ | with_reducible refine r_or ?_ | with_reducible refine r_not ?_
  | with_reducible refine r_andV ?_ | with_reducible refine r_orV ?_ | with_reducible refine r_notV ?_ | with_reducible refine r_chain ?_ | with_reducible refine r_sl ?_ | with_reducible refine r_nopart ?_ | with_reducible refine r_part ?_
  | with_reducible refine r_intO ?_ | with_reducible refine r_two ?_ | with_reducible refine r_m1 ?_ | with_reducible refine r_bm ?_ | with_reducible refine r_next ?_ | with_reducible refine r_for ?_ | with_reducible refine r_rng1 ?_ | with_reducible refine r_iList ?_ | with_reducible refine r_iAny ?_ | with_reducible refine r_lc ?_ | with_reducible refine r_yes ?_ | with_reducible refine r_gN ?_ | with_reducible refine r_par ?_ | with_reducible refine r_un ?_ | with_reducible refine r_brk ?_ | with_reducible refine r_cont ?_
  | with_reducible refine r_I0 ?_ | with_reducible refine r_U ?_ | with_reducible refine r_addI ?_ | with_reducible refine r_abs ?_ | with_reducible refine r_intI ?_ | with_reducible refine r_max2 ?_ | with_reducible refine r_min2 ?_
  | with_reducible refine r_ltI ?_ | with_reducible refine r_leI ?_ | with_reducible refine r_gtI ?_ | with_reducible refine r_geI ?_ | with_reducible refine r_isN_non ?_ | with_reducible refine r_isN_int ?_ | with_reducible refine r_isN_str ?_ | with_reducible refine r_isN_bl ?_ | with_reducible refine r_isN_ref ?_ | with_reducible refine r_isN ?_ | with_reducible refine r_isB ?_ | with_reducible refine r_isnotN_non ?_ | with_reducible refine r_isnotN_int ?_ | with_reducible refine r_isnotN_str ?_ | with_reducible refine r_isnotN_bl ?_ | with_reducible refine r_isnotN_ref ?_ | with_reducible refine r_isnotN ?_ | with_reducible refine r_isnotB ?_
  | with_reducible refine r_inS ?_ | with_reducible refine r_eqS rfl ?_ | with_reducible refine r_neS rfl ?_ | with_reducible refine r_lst ?_ | with_reducible refine r_tup ?_ | with_reducible refine iteT ?_ | with_reducible refine iteF ?_))
local macro_rules | `(tactic| walk_at "isi") => `(tactic| (first
  | with_reducible refine r_isi_non_int ?_
  | with_reducible refine r_isi_non_str ?_
  | with_reducible refine r_isi_non_list ?_
  | with_reducible refine r_isi_non_tuple ?_
  | with_reducible refine r_isi_non_bool ?_
  | with_reducible refine r_isi_bl_int ?_
  | with_reducible refine r_isi_bl_str ?_
  | with_reducible refine r_isi_bl_list ?_
  | with_reducible refine r_isi_bl_tuple ?_
  | with_reducible refine r_isi_bl_bool ?_
  | with_reducible refine r_isi_int_int ?_
  | with_reducible refine r_isi_int_str ?_
  | with_reducible refine r_isi_int_list ?_
  | with_reducible refine r_isi_int_tuple ?_
  | with_reducible refine r_isi_int_bool ?_
  | with_reducible refine r_isi_str_int ?_
  | with_reducible refine r_isi_str_str ?_
  | with_reducible refine r_isi_str_list ?_
  | with_reducible refine r_isi_str_tuple ?_
  | with_reducible refine r_isi_str_bool ?_
  | with_reducible refine r_isi_lst_int (SqL.of (by assumption)) ?_
  | with_reducible refine r_isi_lst_str (SqL.of (by assumption)) ?_
  | with_reducible refine r_isi_lst_list (SqL.of (by assumption)) ?_
  | with_reducible refine r_isi_lst_tuple (SqL.of (by assumption)) ?_
  | with_reducible refine r_isi_lst_bool (SqL.of (by assumption)) ?_
  | with_reducible refine r_isi_tup_int (SqT.of (by assumption)) ?_
  | with_reducible refine r_isi_tup_str (SqT.of (by assumption)) ?_
  | with_reducible refine r_isi_tup_list (SqT.of (by assumption)) ?_
  | with_reducible refine r_isi_tup_tuple (SqT.of (by assumption)) ?_
  | with_reducible refine r_isi_tup_bool (SqT.of (by assumption)) ?_))
local macro_rules | `(tactic| walk_at "rs") => `(tactic| (first
  | ((with_reducible refine iteTc ?hc ?_); (case hc => rfl)) | ((with_reducible refine iteFc ?hc ?_); (case hc => rfl))
  | walk_at "isi"
  | refine r_ixL (SqL.of (by assumption)) rfl ?_ | refine r_ixL (SqL.of upd_same) rfl ?_
  | refine r_I (C := fun _ j => 0 < j) (by first | decide | assumption | omega) ?_
  | refine r_mulI (.inl ⟨by decide, by decide⟩) ?_ | refine r_mulI (.inr ⟨by decide, by decide⟩) ?_ | refine r_mulI (.inr ⟨by omega, by omega⟩) ?_ | refine r_mulI (.inl ⟨by omega, by omega⟩) ?_
  | refine r_I (wide_div (b := 64) (by decide) (by decide) (by decide) (by decide)) ?_
  | refine r_I (C := CPow) ⟨by decide, by decide, by decide⟩ ?_
  | refine r_setL (by assumption) rfl ?_ | refine r_setL upd_same rfl ?_))
local macro_rules | `(tactic| walk_at "rx") => `(tactic| (walk_at "rd"; (repeat (walk_at "rs"; walk_at "rd"))))

abbrev N_is_number : List Str := ["thing"]
theorem sc_is_number : FnScope N_is_number ["thing"] (defScope s_is_number) := ⟨rfl, rfl, rfl, by decide +kernel, rfl, by decide +kernel, by decide +kernel⟩
section
variable {P : Program} {w : World} {K : PySem.W.Frag} {mg : Str → Option Value} {base : Heap}
theorem c_is_number (F : At K mg "is_number" s_is_number) (B : Bl mg) : Cal P w K mg base 1 "is_number" (spB1 K isIntD) := by
  refine cal_of F sc_is_number (fun vs H Q E h => ?_) (fun _ _ _ _ _ _ us hl => match us, hl with | [_], _ => rfl) (fun f cdv A outer s H vs Q E hr h => ?_)
  · obtain ⟨v, d, rfl, _⟩ := h
    rfl
  · obtain ⟨v, d, rfl, hd, hf, k⟩ := h
    refine ⟨_, (pss_one (ps_ret (pe_and (pe_callB (call_isinstanceA K) rfl B.isinstance (by decide +kernel) (pa_cons (pv 0) (pa_cons (pe_bltn (v := .ty "int") rfl B.int (by decide +kernel) rfl) pa_nil))) (pe_one (pe_not (pe_callB (call_isinstanceA K) rfl B.isinstance (by decide +kernel) (pa_cons (pv 0) (pa_cons (pe_bltn (v := .ty "bool") rfl B.bool (by decide +kernel) rfl) pa_nil)))))))), ?_⟩
    cases hd with
    | lst s r => walk_at "rd"; refine r_isi_lst_int s ?_; walk_at "rx"; exact k _ (Evl.Ex.refl _)
    | tup s r => walk_at "rd"; refine r_isi_tup_int s ?_; walk_at "rx"; exact k _ (Evl.Ex.refl _)
    | _ => walk_at "rx"; exact k _ (Evl.Ex.refl _)
end

abbrev N_is_word : List Str := ["thing", "most", "sign"]
theorem sc_is_word : FnScope N_is_word ["thing", "most"] (defScope s_is_word) := ⟨rfl, rfl, rfl, by decide +kernel, rfl, by decide +kernel, by decide +kernel⟩
def spWordP (K : PySem.W.Frag) : Sp := fun vs H Q _ => ∃ (v : V) (d : PyData) (m : Int), vs = [v, .int m] ∧ Dp K H v d ∧ fit d = true ∧ ∀ H', Evl.Ex H H' → Q (.bl (isWordD m d)) H'
theorem smallE : ("abcdefghijklmnopqrstuvwxyz" : Str).cps.toList = smallL := by decide +kernel
section
variable {P : Program} {w : World} {K : PySem.W.Frag} {mg : Str → Option Value} {base : Heap}
theorem b_is_word {f : Addr} {cdv : Value} {A : Around} {outer : List Env} {s : Shared} {H : Hp} {vs : List V} {Q : VK} {E : XK} (B : Bl mg) (g_SMALL : ∃ u, mg "SMALL" = some u ∧ RelV (.str "abcdefghijklmnopqrstuvwxyz") u)
    (hr : Room 0 (A.deeper (envOfC "is_word" (defScope s_is_word) s.heap.objs.size f cdv))) (h : spWordP K vs H Q E) :
    ∃ t, PSs (cxOf L2.CX0 P w K mg base N_is_word "is_word" (defScope s_is_word) f cdv A outer s H E).nox (defBody s_is_word) t ∧ t { nx := fun _ H' => Q .non H', rt := Q } (start N_is_word vs) H := by
  obtain ⟨v, d, m, rfl, hd, hf, k⟩ := h
  refine ⟨_, (pss_one (ps_ret (pe_and (pe_callB (call_isinstanceA K) rfl B.isinstance (by decide +kernel) (pa_cons (pv 0) (pa_cons (pe_bltn (v := .ty "str") rfl B.str (by decide +kernel) rfl) pa_nil))) (pe_and (pe_cmpR op_leA (pe_callB (call_lenA K) rfl B.len (by decide +kernel) (pa_cons (pv 0) pa_nil)) (pv 1) (nomark _)) (pe_one (pe_callB (call_allA K rfl) rfl B.all (by decide +kernel) (pa_cons (pe_lc (own := [("sign", 2)]) rfl sc_is_word.nd (pi_any K (pv 0)) (blkOk_by (N := N_is_word) (sc := defScope s_is_word) (by decide +kernel)) (fun _ _ _ _ _ => (pg_name (i := 2) sc_is_word.nd rfl (Or.inl rfl))) (fun _ _ _ _ _ => pts_nil) (fun _ _ _ _ _ => (pe_cmpR (op_inA K) (pv 2) (C8.pe_gc rfl g_SMALL) (by rfl)))) pa_nil))))))), ?_⟩
  cases hd with
  | lst s r => walk_at "rd"; refine r_isi_lst_str s ?_; walk_at "rx"; exact k _ (Evl.Ex.refl _)
  | tup s r => walk_at "rd"; refine r_isi_tup_str s ?_; walk_at "rx"; exact k _ (Evl.Ex.refl _)
  | str z =>
    have hz := (fit_str hf).1
    walk_at "rx"
    refine r_lenS (by rw [sizeLine_eq]; omega) ?_
    walk_at "rx"
    refine iteD (fun h1 => ?_) (fun h1 => ?_)
    · walk_at "rx"
      refine .inr (.inr ⟨z, rfl, ?_⟩)
      intro D hD
      refine lc_str (z := z) hD (fun c => .bl (decide (c ∈ smallL))) ?_ ?_ ?_ ?_
      · exact fun _ => rfl
      · omega
      · intro c hc H' e1 Q' q
        walk_at "rd"
        rw [smallE]
        exact q _ (Evl.Ex.refl _)
      · intro H' e1 hD2
        walk_at "rd"
        refine r_all (bs := z.cps.toList.map fun c => decide (c ∈ smallL)) (by rw [hD2, List.map_map]; rfl) ?_
        have := k _ e1
        rw [isWordD, isWordS, decide_eq_true h1, Bool.true_and] at this
        rw [List.all_map]
        exact this
    · walk_at "rx"
      have := k _ (Evl.Ex.refl _)
      rw [isWordD, isWordS, decide_eq_false h1, Bool.false_and] at this
      exact this
  | _ => walk_at "rx"; exact k _ (Evl.Ex.refl _)
theorem c_is_word_2 (F : AtD K mg "is_word" s_is_word [.int 30] []) (B : Bl mg) (g_SMALL : ∃ u, mg "SMALL" = some u ∧ RelV (.str "abcdefghijklmnopqrstuvwxyz") u) : CalD P w K mg base 1 "is_word" (spWordP K) [] := by
  refine calD_of (dvs := [.int 30]) F sc_is_word (fun vs H Q E h => ?_) (fun f cdv A outer s H vs Q E hr h => b_is_word B g_SMALL hr h) 2 1 (by simp) rfl (fun T kV doc pm an cdv ct us its h1 h2 => ?_)
  · obtain ⟨v, d, m, rfl, _⟩ := h
    rfl
  · match us, h1, its, h2 with
    | [_, _], _, [_], _ => exact ⟨_, rfl, rfl⟩
theorem c_is_word_1 (F : AtD K mg "is_word" s_is_word [.int 30] []) (B : Bl mg) (g_SMALL : ∃ u, mg "SMALL" = some u ∧ RelV (.str "abcdefghijklmnopqrstuvwxyz") u) : CalD P w K mg base 1 "is_word" (spWordP K) [.int 30] := by
  refine calD_of (dvs := [.int 30]) F sc_is_word (fun vs H Q E h => ?_) (fun f cdv A outer s H vs Q E hr h => b_is_word B g_SMALL hr h) 1 0 (by simp) rfl (fun T kV doc pm an cdv ct us its h1 h2 => ?_)
  · obtain ⟨v, d, m, rfl, _⟩ := h
    rfl
  · match us, h1, its, h2 with
    | [_], _, [_], _ => exact ⟨_, rfl, rfl⟩
end

abbrev N_is_item : List Str := ["thing"]
theorem sc_is_item : FnScope N_is_item ["thing"] (defScope s_is_item) := ⟨rfl, rfl, rfl, by decide +kernel, rfl, by decide +kernel, by decide +kernel⟩
section
variable {P : Program} {w : World} {K : PySem.W.Frag} {mg : Str → Option Value} {base : Heap}
theorem c_is_item (F : At K mg "is_item" s_is_item) (B : Bl mg) (c_is_number : Cal P w K mg base 1 "is_number" (spB1 K isIntD)) (c_is_word_1 : CalD P w K mg base 1 "is_word" (spWordP K) [.int 30]) : Cal P w K mg base 2 "is_item" (spB1 K isItemD) := by
  refine cal_of F sc_is_item (fun vs H Q E h => ?_) (fun _ _ _ _ _ _ us hl => match us, hl with | [_], _ => rfl) (fun f cdv A outer s H vs Q E hr h => ?_)
  · obtain ⟨v, d, rfl, _⟩ := h
    rfl
  · obtain ⟨v, d, rfl, hd, hf, k⟩ := h
    refine ⟨_, (pss_one (ps_ret (pe_or (pe_cmpR op_isA (pv 0) pe_non (nomark _)) (pe_or (pe_cA c_is_number hr (by omega) rfl (pa_cons (pv 0) pa_nil)) (pe_one (pe_cD c_is_word_1 hr (by omega) rfl (pa_cons (pv 0) pa_nil))))))), ?_⟩
    cases hd with
    | non => walk_at "rx"; exact k _ (Evl.Ex.refl _)
    | int i =>
      walk_at "rx"
      refine ⟨_, _, rfl, .int i, hf, fun H1 e1 => ?_⟩
      walk_at "rx"
      exact k _ e1
    | bl b =>
      walk_at "rx"
      refine ⟨_, _, rfl, .bl b, hf, fun H1 e1 => ?_⟩
      walk_at "rx"
      refine ⟨_, _, _, rfl, .bl b, hf, fun H2 e2 => k _ (e1.trans e2)⟩
    | str z =>
      walk_at "rx"
      refine ⟨_, _, rfl, .str z, hf, fun H1 e1 => ?_⟩
      walk_at "rx"
      refine ⟨_, _, _, rfl, .str z, hf, fun H2 e2 => k _ (e1.trans e2)⟩
    | lst s r =>
      walk_at "rx"
      refine ⟨_, _, rfl, .lst s r, hf, fun H1 e1 => ?_⟩
      walk_at "rx"
      refine ⟨_, _, _, rfl, Dp.mono e1 (.lst s r), hf, fun H2 e2 => k _ (e1.trans e2)⟩
    | tup s r =>
      walk_at "rx"
      refine ⟨_, _, rfl, .tup s r, hf, fun H1 e1 => ?_⟩
      walk_at "rx"
      refine ⟨_, _, _, rfl, Dp.mono e1 (.tup s r), hf, fun H2 e2 => k _ (e1.trans e2)⟩
end

abbrev N_is_class_name : List Str := ["thing", "sign"]
theorem sc_is_class_name : FnScope N_is_class_name ["thing"] (defScope s_is_class_name) := ⟨rfl, rfl, rfl, by decide +kernel, rfl, by decide +kernel, by decide +kernel⟩
theorem smallE2 : ("abcdefghijklmnopqrstuvwxyz" : Str).cps.toList = smallL := by decide +kernel
theorem capsE : ("ABCDEFGHIJKLMNOPQRSTUVWXYZ" : Str).cps.toList = capsL := by decide +kernel
section
variable {P : Program} {w : World} {K : PySem.W.Frag} {mg : Str → Option Value} {base : Heap}
theorem c_is_class_name (F : At K mg "is_class_name" s_is_class_name) (B : Bl mg) (g_SMALL : ∃ u, mg "SMALL" = some u ∧ RelV (.str "abcdefghijklmnopqrstuvwxyz") u) (g_CAPITALS : ∃ u, mg "CAPITALS" = some u ∧ RelV (.str "ABCDEFGHIJKLMNOPQRSTUVWXYZ") u) : Cal P w K mg base 1 "is_class_name" (spB1 K isClsD) := by
  refine cal_of F sc_is_class_name (fun vs H Q E h => ?_) (fun _ _ _ _ _ _ us hl => match us, hl with | [_], _ => rfl) (fun f cdv A outer s H vs Q E hr h => ?_)
  · obtain ⟨v, d, rfl, _⟩ := h
    rfl
  · obtain ⟨v, d, rfl, hd, hf, k⟩ := h
    refine ⟨_, (pss_cons (ps_if (PW.pt (pw_or (pt_not (pt_val (pe_callB (call_isinstanceA K) rfl B.isinstance (by decide +kernel) (pa_cons (pv 0) (pa_cons (pe_bltn (v := .ty "str") rfl B.str (by decide +kernel) rfl) pa_nil))))) (pw_or1 (pt_not (pt_chain op_leA op_leA pe_int (pe_callB (call_lenA K) rfl B.len (by decide +kernel) (pa_cons (pv 0) pa_nil)) pe_int)))))
   (pss_one (ps_ret pe_bl))
   pss_nil)
  (pss_one (ps_ret (pe_and (pe_cmpR (op_inA K) (pe_ix (ix_A K) (pv 0) pe_int (fun _ _ => rfl)) (C8.pe_gc rfl g_CAPITALS) (by rfl)) (pe_one (pe_callB (call_allA K rfl) rfl B.all (by decide +kernel) (pa_cons (pe_lc (own := [("sign", 1)]) rfl sc_is_class_name.nd (pi_any K (pv 0)) (blkOk_by (N := N_is_class_name) (sc := defScope s_is_class_name) (by decide +kernel)) (fun _ _ _ _ _ => (pg_name (i := 1) sc_is_class_name.nd rfl (Or.inl rfl))) (fun _ _ _ _ _ => pts_nil) (fun _ _ _ _ _ => (pe_or (pe_cmpR (op_inA K) (pv 1) (C8.pe_gc rfl g_SMALL) (by rfl)) (pe_one (pe_cmpR (op_inA K) (pv 1) (C8.pe_gc rfl g_CAPITALS) (by rfl)))))) pa_nil))))))), ?_⟩
    cases hd with
    | lst s r => walk_at "rd"; refine r_isi_lst_str s ?_; walk_at "rx"; exact k _ (Evl.Ex.refl _)
    | tup s r => walk_at "rd"; refine r_isi_tup_str s ?_; walk_at "rx"; exact k _ (Evl.Ex.refl _)
    | str z =>
      have hz := (fit_str hf).1
      have hzl : z.cps.toList.length = z.length := by simp [Str.length]
      walk_at "rx"
      refine r_lenS (by rw [sizeLine_eq]; omega) ?_
      walk_at "rx"
      rw [isClsD, isClsS] at k
      cases hc : z.cps.toList with
      | nil =>
        rw [hc] at k hzl
        refine iteN (by rw [← hzl]; decide) ?_
        walk_at "rx"
        exact k _ (Evl.Ex.refl _)
      | cons c r =>
        rw [hc] at k hzl
        rw [List.length_cons] at hzl
        dsimp only at k
        refine iteY (by omega) ?_
        walk_at "rx"
        refine iteND (fun h1 => ?_) (fun h1 => ?_)
        · walk_at "rx"
          have := k _ (Evl.Ex.refl _)
          rw [decide_eq_false (by omega)] at this
          exact this
        · walk_at "rx"
          replace k : ∀ H', Evl.Ex H H' → Q (.bl (decide (c ∈ capsL) && (c :: r).all fun d => decide (d ∈ smallL) || decide (d ∈ capsL))) H' := fun H' e => by
            have := k H' e
            rw [decide_eq_true (show r.length ≤ 11 by omega)] at this
            exact this
          refine r_ixS (c := c) (by rw [sizeLine_eq]; omega) (by rw [hc]; exact atI_nat (j := 0) rfl) ?_
          walk_at "rx"
          rw [capsE]
          refine iteD (fun h2 => ?_) (fun h2 => ?_)
          · walk_at "rx"
            refine .inr (.inr ⟨z, rfl, ?_⟩)
            intro D hD
            refine lc_str (z := z) hD (fun c => .bl (decide (c ∈ smallL) || decide (c ∈ capsL))) ?_ ?_ ?_ ?_
            · exact fun _ => rfl
            · omega
            · intro c' hc' H' e1 Q' q
              walk_at "rd"
              rw [smallE2]
              refine iteD (fun h3 => ?_) (fun h3 => ?_)
              · rw [decide_eq_true h3] at q
                exact q _ (Evl.Ex.refl _)
              · rw [decide_eq_false h3] at q
                walk_at "rd"
                rw [capsE]
                exact q _ (Evl.Ex.refl _)
            · intro H' e1 hD2
              walk_at "rd"
              refine r_all (bs := z.cps.toList.map fun c => decide (c ∈ smallL) || decide (c ∈ capsL)) (by rw [hD2, List.map_map]; rfl) ?_
              have := k _ e1
              rw [decide_eq_true h2, Bool.true_and] at this
              rw [List.all_map, hc]
              exact this
          · walk_at "rx"
            have := k _ (Evl.Ex.refl _)
            rw [decide_eq_false h2, Bool.false_and] at this
            exact this
    | _ => walk_at "rx"; exact k _ (Evl.Ex.refl _)
end

abbrev N_is_raised : List Str := ["thing"]
theorem sc_is_raised : FnScope N_is_raised ["thing"] (defScope s_is_raised) := ⟨rfl, rfl, rfl, by decide +kernel, rfl, by decide +kernel, by decide +kernel⟩
section
variable {P : Program} {w : World} {K : PySem.W.Frag} {mg : Str → Option Value} {base : Heap}
theorem c_is_raised (F : At K mg "is_raised" s_is_raised) (B : Bl mg) (c_is_class_name : Cal P w K mg base 1 "is_class_name" (spB1 K isClsD)) : Cal P w K mg base 2 "is_raised" (spB1 K isRaisedD) := by
  refine cal_of F sc_is_raised (fun vs H Q E h => ?_) (fun _ _ _ _ _ _ us hl => match us, hl with | [_], _ => rfl) (fun f cdv A outer s H vs Q E hr h => ?_)
  · obtain ⟨v, d, rfl, _⟩ := h
    rfl
  · obtain ⟨v, d, rfl, hd, hf, k⟩ := h
    refine ⟨_, (pss_cons (ps_if (PW.pt (pw_or (pt_not (pt_val (pe_callB (call_isinstanceA K) rfl B.isinstance (by decide +kernel) (pa_cons (pv 0) (pa_cons (pe_bltn (v := .ty "tuple") rfl B.tuple (by decide +kernel) rfl) pa_nil))))) (pw_or1 (pt_cmpR (op_neA K hr.units) (pe_callB (call_lenA K) rfl B.len (by decide +kernel) (pa_cons (pv 0) pa_nil)) pe_int (nomark _)))))
   (pss_one (ps_ret pe_bl))
   pss_nil)
  (pss_cons (ps_if (PW.pt (pw_or (pt_not (pt_val (pe_callB (call_isinstanceA K) rfl B.isinstance (by decide +kernel) (pa_cons (pe_ix (ix_A K) (pv 0) pe_int (fun _ _ => rfl)) (pa_cons (pe_bltn (v := .ty "str") rfl B.str (by decide +kernel) rfl) pa_nil))))) (pw_or1 (pt_cmpR (op_neA K hr.units) (pe_ix (ix_A K) (pv 0) pe_int (fun _ _ => rfl)) pe_str (nomark _)))))
   (pss_one (ps_ret pe_bl))
   pss_nil)
  (pss_one (ps_ret (pe_and (pe_cA c_is_class_name hr (by omega) rfl (pa_cons (pe_ix (ix_A K) (pv 0) pe_int (fun _ _ => rfl)) pa_nil)) (pe_one (pe_or (pe_cmpR op_isA (pe_ix (ix_A K) (pv 0) pe_int (fun _ _ => rfl)) pe_non (nomark _)) (pe_one (pe_cA c_is_class_name hr (by omega) rfl (pa_cons (pe_ix (ix_A K) (pv 0) pe_int (fun _ _ => rfl)) pa_nil)))))))))), ?_⟩
    cases hd with
    | lst s r => walk_at "rd"; refine r_isi_lst_tuple s ?_; walk_at "rx"; exact k _ (Evl.Ex.refl _)
    | @tup a xs ds s r =>
      walk_at "rd"
      refine r_isi_tup_tuple s ?_
      walk_at "rx"
      refine r_lenT s ?_
      walk_at "rx"
      have hl := DpAll.length r
      refine iteND (fun h1 => ?_) (fun h1 => ?_)
      · walk_at "rx"
        have := k _ (Evl.Ex.refl _)
        rw [raised_len (by intro e; exact h1 (by rw [hl, e]; rfl))] at this
        exact this
      · have h3 : ds.length = 3 := by
          have : (xs.length : Int) = 3 := by injection h1
          omega
        obtain ⟨d1, d2, d3, rfl⟩ : ∃ d1 d2 d3, ds = [d1, d2, d3] := by
          match ds, h3 with
          | [a, b, c], _ => exact ⟨a, b, c, rfl⟩
        have hfa := (fit_tuple hf).2
        cases r with
        | @cons v1 _ _ _ p1 r =>
        cases r with
        | @cons v2 _ _ _ p2 r =>
        cases r with
        | @cons v3 _ _ _ p3 r =>
        cases r with
        | nil =>
        walk_at "rx"
        refine r_ixT s (atI_nat (j := 0) rfl) ?_
        walk_at "rx"
        cases p1 with
        | str z =>
          walk_at "rx"
          refine r_ixT s (atI_nat (j := 0) rfl) ?_
          walk_at "rx"
          have k2 : ∀ H', Evl.Ex H H' → Q (.bl (decide (z = "raises") && (isClsD d2 && (isNonD d3 || isClsD d3)))) H' := k
          refine iteND (fun h4 => ?_) (fun h4 => ?_)
          · walk_at "rx"
            have := k2 _ (Evl.Ex.refl _)
            rw [decide_eq_false (fun e => h4 (by rw [e])), Bool.false_and] at this
            exact this
          · have h4 : z = "raises" := by injection h4
            rw [decide_eq_true h4, Bool.true_and] at k2
            walk_at "rx"
            refine r_ixT s (atI_nat (j := 1) rfl) ?_
            walk_at "rx"
            refine ⟨_, _, rfl, p2, fitAll_mem hfa (by simp), fun H1 e1 => ?_⟩
            walk_at "rx"
            refine iteB (fun h5 => ?_) (fun h5 => ?_)
            · rw [h5, Bool.true_and] at k2
              walk_at "rx"
              refine r_ixT (Evl.ex_t e1 s) (atI_nat (j := 2) rfl) ?_
              cases p3 with
              | non => walk_at "rx"; exact k2 _ e1
              | _ =>
                walk_at "rx"
                refine r_ixT (Evl.ex_t e1 s) (atI_nat (j := 2) rfl) ?_
                walk_at "rx"
                refine ⟨_, _, rfl, Dp.mono e1 (by first | exact .bl _ | exact .int _ | exact .str _ | exact .lst (by assumption) (by assumption) | exact .tup (by assumption) (by assumption)), fitAll_mem hfa (by simp), fun H2 e2 => ?_⟩
                exact k2 _ (e1.trans e2)
            · rw [h5, Bool.false_and] at k2
              walk_at "rx"
              exact k2 _ e1
        | lst s2 r2 =>
          refine r_isi_lst_str s2 ?_
          walk_at "rx"
          have := k _ (Evl.Ex.refl _)
          rw [raised_fst (by intro z e; cases e)] at this
          exact this
        | tup s2 r2 =>
          refine r_isi_tup_str s2 ?_
          walk_at "rx"
          have := k _ (Evl.Ex.refl _)
          rw [raised_fst (by intro z e; cases e)] at this
          exact this
        | _ =>
          walk_at "rx"
          have := k _ (Evl.Ex.refl _)
          rw [raised_fst (by intro z e; cases e)] at this
          exact this
    | _ => walk_at "rx"; exact k _ (Evl.Ex.refl _)
end

abbrev N_is_answer : List Str := ["thing", "item"]
theorem sc_is_answer : FnScope N_is_answer ["thing"] (defScope s_is_answer) := ⟨rfl, rfl, rfl, by decide +kernel, rfl, by decide +kernel, by decide +kernel⟩
section
variable {P : Program} {w : World} {K : PySem.W.Frag} {mg : Str → Option Value} {base : Heap}
theorem DpAll.mem {H : Hp} {vs : List V} {ds : List PyData} (h : DpAll K H vs ds) {v : V} (hv : v ∈ vs) : ∃ d ∈ ds, Dp K H v d := by
  obtain ⟨i, hi, e⟩ := List.mem_iff_getElem.mp hv
  obtain ⟨d, h1, h2⟩ := DpAll.get h (i := i) (by rw [List.getElem?_eq_getElem hi, e])
  exact ⟨d, List.mem_of_getElem? h1, h2⟩
theorem c_is_answer (F : At K mg "is_answer" s_is_answer) (B : Bl mg) (c_is_item : Cal P w K mg base 2 "is_item" (spB1 K isItemD)) (c_is_raised : Cal P w K mg base 2 "is_raised" (spB1 K isRaisedD)) : Cal P w K mg base 3 "is_answer" (spB1 K isAnswerD) := by
  refine cal_of F sc_is_answer (fun vs H Q E h => ?_) (fun _ _ _ _ _ _ us hl => match us, hl with | [_], _ => rfl) (fun f cdv A outer s H vs Q E hr h => ?_)
  · obtain ⟨v, d, rfl, _⟩ := h
    rfl
  · obtain ⟨v, d, rfl, hd, hf, k⟩ := h
    refine ⟨_, (pss_cons (ps_if (pt_val (pe_callB (call_isinstanceA K) rfl B.isinstance (by decide +kernel) (pa_cons (pv 0) (pa_cons (pe_bltn (v := .ty "list") rfl B.list (by decide +kernel) rfl) pa_nil))))
   (pss_one (ps_ret (pe_callB (call_allA K rfl) rfl B.all (by decide +kernel) (pa_cons (pe_lc (own := [("item", 1)]) rfl sc_is_answer.nd (pi_any K (pv 0)) (blkOk_by (N := N_is_answer) (sc := defScope s_is_answer) (by decide +kernel)) (fun _ _ _ _ _ => (pg_name (i := 1) sc_is_answer.nd rfl (Or.inl rfl))) (fun _ _ _ _ _ => pts_nil) (fun _ _ _ _ _ => (pe_cA c_is_item hr (by omega) rfl (pa_cons (pv 1) pa_nil)))) pa_nil))))
   pss_nil)
  (pss_one (ps_ret (pe_or (pe_cA c_is_item hr (by omega) rfl (pa_cons (pv 0) pa_nil)) (pe_one (pe_cA c_is_raised hr (by omega) rfl (pa_cons (pv 0) pa_nil))))))), ?_⟩
    cases hd with
    | @lst a xs ds s r =>
      walk_at "rd"
      refine r_isi_lst_list s ?_
      walk_at "rx"
      have hl := DpAll.length r
      have hfl := fit_list hf
      refine .inl ⟨a, rfl, ⟨_, s⟩, ?_⟩
      intro D hD
      refine lc_pure walk_list hD (fun i => xs.getD i .non) (fun i => .bl (isItemD (ds.getD i .none))) ?_ (fun _ e => Evl.ex_l e s) ?_ (by omega) ?_ ?_
      · rintro i H x H' hi _ ⟨e, hx⟩
        exact ⟨e, by rw [List.getD_eq_getElem?_getD, hx]; rfl⟩
      · exact fun _ => rfl
      · intro i hi H' e1 Q' q
        walk_at "rd"
        have hx : xs[i]? = some (xs.getD i .non) := by rw [List.getD_eq_getElem?_getD, List.getElem?_eq_getElem hi]; rfl
        obtain ⟨d, h1, h2⟩ := DpAll.get r hx
        refine ⟨_, d, rfl, Dp.mono e1 h2, fitAll_mem hfl.2 (List.mem_of_getElem? h1), fun H2 e2 => ?_⟩
        have := q _ e2
        rw [List.getD_eq_getElem?_getD (a := PyData.none), h1] at this
        exact this
      · intro H' e1 hD2
        walk_at "rd"
        refine r_all (bs := ds.map isItemD) ?_ ?_
        · rw [hD2]
          congr 2
          refine List.ext_getElem (by simp [hl]) fun i h1 h2 => ?_
          simp at h1 h2
          simp [List.getElem?_eq_getElem h2]
        · rw [List.all_map]
          exact k _ e1
    | tup s r =>
      walk_at "rd"
      refine r_isi_tup_list s ?_
      walk_at "rx"
      refine ⟨_, _, rfl, .tup s r, hf, fun H1 e1 => ?_⟩
      walk_at "rx"
      refine ⟨_, _, rfl, Dp.mono e1 (.tup s r), hf, fun H2 e2 => k _ (e1.trans e2)⟩
    | non =>
      walk_at "rx"
      refine ⟨_, _, rfl, .non, hf, fun H1 e1 => ?_⟩
      walk_at "rx"
      exact k _ e1
    | int i =>
      walk_at "rx"
      refine ⟨_, _, rfl, .int i, hf, fun H1 e1 => ?_⟩
      walk_at "rx"
      exact k _ e1
    | bl b =>
      walk_at "rx"
      refine ⟨_, _, rfl, .bl b, hf, fun H1 e1 => ?_⟩
      walk_at "rx"
      refine ⟨_, _, rfl, .bl b, hf, fun H2 e2 => k _ (e1.trans e2)⟩
    | str z =>
      walk_at "rx"
      refine ⟨_, _, rfl, .str z, hf, fun H1 e1 => ?_⟩
      have k2 : ∀ H', Evl.Ex H H' → Q (.bl (isWordS z 30 || false)) H' := k
      have e : isItemD (.str z) = isWordS z 30 := rfl
      rw [e]
      walk_at "rx"
      refine iteB (fun h5 => ?_) (fun h5 => ?_)
      · rw [h5] at k2
        walk_at "rx"
        exact k2 _ e1
      · rw [h5] at k2
        walk_at "rx"
        refine ⟨_, _, rfl, .str z, hf, fun H2 e2 => k2 _ (e1.trans e2)⟩
end

abbrev N_is_name : List Str := ["thing"]
theorem sc_is_name : FnScope N_is_name ["thing"] (defScope s_is_name) := ⟨rfl, rfl, rfl, by decide +kernel, rfl, by decide +kernel, by decide +kernel⟩
section
variable {P : Program} {w : World} {K : PySem.W.Frag} {mg : Str → Option Value} {base : Heap}
theorem any_flat (l : List Str) : (l.map V.str).all flatV = true := by
  rw [List.all_eq_true]
  intro v hv
  obtain ⟨z, _, rfl⟩ := List.mem_map.mp hv
  rfl
theorem in_strs (z : Str) : ∀ l : List Str, inV (.str z) (l.map V.str) = l.any fun k => decide (tl k = tl z)
  | [] => rfl
  | k :: r => by
    have h := in_strs z r
    unfold inV at h ⊢
    rw [List.map_cons, List.any_cons, List.any_cons, h]
    congr 1
    show eqV (.str k) (.str z) = _
    unfold eqV
    first
      | exact decide_eq_decide.mpr (by rw [tl_inj])
      | (by_cases e : k = z
         · subst e; simp
         · have : ¬ tl k = tl z := fun q => e (tl_ext q)
           simp [e, this])
theorem c_is_name_ (F : At K mg "is_name" s_is_name) (B : Bl mg) (c_is_word_2 : CalD P w K mg base 1 "is_word" (spWordP K) []) {a : Addr} (g_KEYWORDS : ∃ u, mg "KEYWORDS" = some u ∧ RelV (.ref a) u) (hK : ∀ H, SqT K H a (kwS.map V.str)) : Cal P w K mg base 2 "is_name" (spB1 K isNameD) := by
  refine cal_of F sc_is_name (fun vs H Q E h => ?_) (fun _ _ _ _ _ _ us hl => match us, hl with | [_], _ => rfl) (fun f cdv A outer s H vs Q E hr h => ?_)
  · obtain ⟨v, d, rfl, _⟩ := h
    rfl
  · obtain ⟨v, d, rfl, hd, hf, k⟩ := h
    refine ⟨_, (pss_one (ps_ret (pe_and (pe_cD c_is_word_2 hr (by omega) rfl (pa_cons (pv 0) (pa_cons pe_int pa_nil))) (pe_and (pe_cmpR (op_neA K hr.units) (pv 0) pe_str (nomark _)) (pe_one (pe_cmpR (op_notInA K) (pv 0) (C8.pe_gc rfl g_KEYWORDS) (by rfl))))))), ?_⟩
    walk_at "rd"
    refine ⟨v, d, 12, rfl, hd, hf, fun H1 e1 => ?_⟩
    cases hd with
    | str z =>
      replace k : ∀ H', Evl.Ex H H' → Q (.bl (isWordL (tl z) 12 && (decide (tl z ≠ []) && !(kwS.any fun k => decide (tl k = tl z))))) H' := k
      have e : isWordD 12 (.str z) = isWordL (tl z) 12 := isWordS_L z 12
      rw [e]
      walk_at "rd"
      refine iteB (fun h1 => ?_) (fun h1 => ?_)
      · rw [h1, Bool.true_and] at k
        walk_at "rd"
        refine iteND (fun h2 => ?_) (fun h2 => ?_)
        · rw [decide_eq_true (show tl z ≠ [] from fun e => h2 (by rw [tl_ext (y := "") (e.trans (by decide +kernel))])), Bool.true_and] at k
          walk_at "rd"
          refine .inr ⟨a, _, rfl, .inr (hK _), rfl, any_flat kwS, ?_⟩
          rw [in_strs]
          exact k _ e1
        · rw [decide_eq_false (show ¬ tl z ≠ [] from fun e => e (by injection h2 with h2; rw [h2]; decide +kernel)), Bool.false_and] at k
          walk_at "rd"
          exact k _ e1
      · rw [h1, Bool.false_and] at k
        walk_at "rd"
        exact k _ e1
    | _ => walk_at "rx"; exact k _ e1
end

abbrev N_is_number_text : List Str := ["text", "digits", "sign"]
theorem sc_is_number_text : FnScope N_is_number_text ["text"] (defScope s_is_number_text) := ⟨rfl, rfl, rfl, by decide +kernel, rfl, by decide +kernel, by decide +kernel⟩
def spS1 (f : List Nat → Bool) : Sp := fun vs H Q _ => ∃ z : Str, vs = [.str z] ∧ z.length ≤ 100000 ∧ ∀ H', Evl.Ex H H' → Q (.bl (f (tl z))) H'
theorem digitsE : ("0123456789" : Str).cps.toList = digitsL := by decide +kernel
theorem dashE : ("-" : Str) = ⟨#[45]⟩ := by decide +kernel
section
variable {P : Program} {w : World} {K : PySem.W.Frag} {mg : Str → Option Value} {base : Heap}
theorem str_one_eq (c d : Nat) : (V.str ⟨#[c]⟩ = V.str ⟨#[d]⟩) ↔ c = d := by
  constructor
  · intro e
    injection e with e
    injection e with e
    simpa using e
  · rintro rfl; rfl
theorem c_is_number_text_ (F : At K mg "is_number_text" s_is_number_text) (B : Bl mg) (g_DIGITS : ∃ u, mg "DIGITS" = some u ∧ RelV (.str "0123456789") u) : Cal P w K mg base 1 "is_number_text" (spS1 isNumL) := by
  refine cal_of F sc_is_number_text (fun vs H Q E h => ?_) (fun _ _ _ _ _ _ us hl => match us, hl with | [_], _ => rfl) (fun f cdv A outer s H vs Q E hr h => ?_)
  · obtain ⟨z, rfl, _⟩ := h
    rfl
  · obtain ⟨z, rfl, hz, k⟩ := h
    refine ⟨_, (pss_cons (ps_set (i := 1) sc_is_number_text.nd rfl (Or.inl rfl) (pe_ifExp (pt_val (pe_m1 PySem.F.slot_str_startswith PySem.F.type_str_startswith mt_startswith (pv 0) pe_str)) (pe_slice (sl_A K) (pv 0) (po_some pe_int) po_none) (pv 0)))
  (pss_cons (ps_if (PW.pt (pw_or (pt_not (pt_chain op_leA op_leA pe_int (pe_callB (call_lenA K) rfl B.len (by decide +kernel) (pa_cons (pv 1) pa_nil)) pe_int)) (pw_or1 (pt_not (pt_val (pe_callB (call_allA K rfl) rfl B.all (by decide +kernel) (pa_cons (pe_lc (own := [("sign", 2)]) rfl sc_is_number_text.nd (pi_any K (pv 1)) (blkOk_by (N := N_is_number_text) (sc := defScope s_is_number_text) (by decide +kernel)) (fun _ _ _ _ _ => (pg_name (i := 2) sc_is_number_text.nd rfl (Or.inl rfl))) (fun _ _ _ _ _ => pts_nil) (fun _ _ _ _ _ => (pe_cmpR (op_inA K) (pv 2) (C8.pe_gc rfl g_DIGITS) (by rfl)))) pa_nil)))))))
   (pss_one (ps_ret pe_bl))
   pss_nil)
  (pss_one (ps_ret (pe_or (pe_cmpR (op_neA K hr.units) (pe_ix (ix_A K) (pv 1) pe_int (fun _ _ => rfl)) pe_str (nomark _)) (pe_one (pe_cmpR (op_eqA K hr.units) (pv 0) pe_str (nomark _)))))))), ?_⟩
    have rest : ∀ (D : Ends) (dg : Str) (u : Option V), tl dg = numBody (tl z) → dg.length ≤ 100000 → D.rt = Q →
        tSeq (tIfS (tOr (tNot (tTest (tChain rLeA rLeA (tC (.int 1)) (tCB (rLenA K) (tCons (tVar 1) tNil)) (tC (.int 30))))) (tNot (tB (tCB (rAll K) (tCons (tLc (iAny K (tVar 1)) (gName 2) tYes (tOp (rInA K) (tVar 2) (tC (.str "0123456789"))) (List.map (fun x => x.snd) [(Str.ofString "sign", 2)])) tNil))))) (tRet (tC (.bl false))) tNext)
          (tRet (tOrV (tOp (rNeA K) (tOp (rIx K) (tVar 1) (tC (.int 0))) (tC (.str "0"))) (tOp (rEqA K) (tVar 0) (tC (.str "0"))))) D [some (.str z), some (.str dg), u] H := by
      intro D dg u hdg hdl hD
      have hdl2 := tl_length dg
      rw [isNumL, ← hdg] at k
      walk_at "rd"
      refine r_lenS (by rw [sizeLine_eq]; omega) ?_
      walk_at "rd"
      refine iteD (fun h1 => ?_) (fun h1 => ?_)
      · rw [decide_eq_true (show 1 ≤ (tl dg).length by omega), Bool.true_and] at k
        walk_at "rd"
        refine iteND (fun h2 => ?_) (fun h2 => ?_)
        · rw [decide_eq_false (show ¬ (tl dg).length ≤ 30 by omega), Bool.false_and] at k
          walk_at "rd"
          rw [hD]
          exact k _ (Evl.Ex.refl _)
        · rw [decide_eq_true (show (tl dg).length ≤ 30 by omega), Bool.true_and] at k
          walk_at "rd"
          refine .inr (.inr ⟨dg, rfl, ?_⟩)
          intro D1 hD1
          refine lc_str (z := dg) hD1 (fun c => .bl (decide (c ∈ digitsL))) ?_ ?_ ?_ ?_
          · exact fun _ => rfl
          · omega
          · intro c hc H' e1 Q' q
            walk_at "rd"
            rw [digitsE]
            exact q _ (Evl.Ex.refl _)
          · intro H1 e1 hD2
            walk_at "rd"
            refine r_all (bs := dg.cps.toList.map fun c => decide (c ∈ digitsL)) (by rw [hD2, List.map_map]; rfl) ?_
            rw [List.all_map]
            walk_at "rd"
            refine iteNB (fun h3 => ?_) (fun h3 => ?_)
            · have : (tl dg).all (fun c => decide (c ∈ digitsL)) = false := h3
              rw [this, Bool.false_and] at k
              walk_at "rd"
              rw [hD]
              exact k _ e1
            · have : (tl dg).all (fun c => decide (c ∈ digitsL)) = true := h3
              rw [this, Bool.true_and] at k
              walk_at "rd"
              cases hc : tl dg with
              | nil => rw [hc] at hdl2; simp at hdl2; omega
              | cons c r =>
                rw [hc] at k
                refine r_ixS (c := c) (by rw [sizeLine_eq]; omega) (by show atI (tl dg) 0 = some c; rw [hc]; exact atI_nat (j := 0) rfl) ?_
                walk_at "rd"
                rw [hD]
                refine iteND (fun h4 => ?_) (fun h4 => ?_)
                · have h5 : ¬ (c :: r).head? = some 48 := by
                    intro e
                    have : c = 48 := by simpa using e
                    exact h4 (by rw [this]; decide +kernel)
                  rw [decide_eq_false h5] at k
                  exact k _ e1
                · have h5 : (c :: r).head? = some 48 := by
                    have e0 : ("0" : Str) = ⟨#[48]⟩ := by decide +kernel
                    rw [e0, str_one_eq] at h4
                    rw [h4]; rfl
                  rw [decide_eq_true h5] at k
                  walk_at "rd"
                  have := k _ e1
                  have e6 : decide (V.str z = V.str "0") = decide (tl z = [48]) := decide_eq_decide.mpr ⟨fun e => by injection e with e; rw [e]; decide +kernel, fun e => by rw [tl_ext (y := "0") (e.trans (by decide +kernel))]⟩
                  rw [e6]
                  exact this
      · rw [decide_eq_false (show ¬ 1 ≤ (tl dg).length by omega)] at k
        walk_at "rd"
        refine iteTc rfl ?_
        walk_at "rd"
        rw [hD]
        exact k _ (Evl.Ex.refl _)
    walk_at "rd"
    refine ⟨⟨_, rfl⟩, ?_⟩
    walk_at "rd"
    refine ⟨z, _, rfl, rfl, ?_⟩
    rw [dashE, starts_one]
    walk_at "rd"
    refine iteD (fun h1 => ?_) (fun h1 => ?_)
    · walk_at "rd"
      refine r_slS (by rw [sizeLine_eq]; omega) ?_
      refine rest _ _ _ (by rw [cut_tail, numBody, if_pos h1]) ?_ rfl
      rw [← tl_length, cut_tail, List.length_tail, tl_length]
      omega
    · refine r_var rfl ?_
      exact rest _ _ _ (by rw [numBody, if_neg h1]) hz rfl
end

abbrev N_is_constant_text : List Str := ["text"]
theorem sc_is_constant_text : FnScope N_is_constant_text ["text"] (defScope s_is_constant_text) := ⟨rfl, rfl, rfl, by decide +kernel, rfl, by decide +kernel, by decide +kernel⟩
section
variable {P : Program} {w : World} {K : PySem.W.Frag} {mg : Str → Option Value} {base : Heap}
theorem quoteE : ("\"" : Str) = ⟨#[34]⟩ := by decide +kernel
theorem c_is_constant_text_ (F : At K mg "is_constant_text" s_is_constant_text) (B : Bl mg) (c_is_word_2 : CalD P w K mg base 1 "is_word" (spWordP K) []) (c_is_number_text : Cal P w K mg base 1 "is_number_text" (spS1 isNumL)) : Cal P w K mg base 2 "is_constant_text" (fun vs H Q E => spS1 isConstL vs H Q E ∧ ∀ z, vs = [.str z] → PyData.strOk z = true) := by
  refine cal_of F sc_is_constant_text (fun vs H Q E h => ?_) (fun _ _ _ _ _ _ us hl => match us, hl with | [_], _ => rfl) (fun f cdv A outer s H vs Q E hr h => ?_)
  · obtain ⟨⟨z, rfl, _⟩, _⟩ := h
    rfl
  · obtain ⟨⟨z, rfl, hz, k⟩, hok⟩ := h
    replace hok := hok z rfl
    refine ⟨_, (pss_cons (ps_if (PW.pt (pw_and (pt_cmpR op_geA (pe_callB (call_lenA K) rfl B.len (by decide +kernel) (pa_cons (pv 0) pa_nil)) pe_int (nomark _)) (pw_and (pt_cmpR (op_eqA K hr.units) (pe_ix (ix_A K) (pv 0) pe_int (fun _ _ => rfl)) pe_str (nomark _)) (pw_and1 (pt_cmpR (op_eqA K hr.units) (pe_ix (ix_A K) (pv 0) (pe_un un_neg pe_int) (fun _ _ => rfl)) pe_str (nomark _))))))
   (pss_one (ps_ret (pe_cD c_is_word_2 hr (by omega) rfl (pa_cons (pe_slice (sl_A K) (pv 0) (po_some pe_int) (po_some (pe_un un_neg pe_int))) (pa_cons pe_int pa_nil)))))
   pss_nil)
  (pss_one (ps_ret (pe_or (pe_cmpR (op_eqA K hr.units) (pv 0) pe_str (nomark _)) (pe_one (pe_cA c_is_number_text hr (by omega) rfl (pa_cons (pv 0) pa_nil))))))), ?_⟩
    have hzl := tl_length z
    have other : ∀ (D : Ends), ¬ (2 ≤ (tl z).length ∧ (tl z).head? = some 34 ∧ (tl z).getLast? = some 34) → D.rt = Q → tRet (tOrV (tOp (rEqA K) (tVar 0) (tC (.str "none"))) (tCall (spS1 isNumL) [] L2.E0 (tCons (tVar 0) tNil))) D [some (.str z)] H := by
      intro D hn hD
      rw [isConstL, if_neg hn] at k
      have e6 : decide (V.str z = V.str "none") = decide (tl z = noneL) := decide_eq_decide.mpr ⟨fun e => by injection e with e; rw [e]; decide +kernel, fun e => by rw [tl_ext (y := "none") (e.trans (by decide +kernel))]⟩
      rw [← e6] at k
      walk_at "rd"
      rw [hD]
      refine iteD (fun h1 => ?_) (fun h1 => ?_)
      · rw [decide_eq_true h1] at k
        exact k _ (Evl.Ex.refl _)
      · rw [decide_eq_false h1] at k
        walk_at "rd"
        exact ⟨z, rfl, hz, fun H' e => k _ e⟩
    walk_at "rd"
    refine r_lenS (by rw [sizeLine_eq]; omega) ?_
    walk_at "rd"
    refine iteD (fun h1 => ?_) (fun h1 => ?_)
    · obtain ⟨c, r, hc⟩ : ∃ c r, tl z = c :: r := by
        cases h : tl z with
        | nil => rw [h] at hzl; simp at hzl; omega
        | cons c r => exact ⟨c, r, rfl⟩
      walk_at "rd"
      refine r_ixS (c := c) (by rw [sizeLine_eq]; omega) (by show atI (tl z) 0 = some c; rw [hc]; exact atI_nat (j := 0) rfl) ?_
      walk_at "rd"
      rw [quoteE]
      refine iteD (fun h2 => ?_) (fun h2 => ?_)
      · rw [str_one_eq] at h2
        have hlast : ∃ e, (tl z).getLast? = some e ∧ atI (tl z) (-1) = some e := by
          rcases List.eq_nil_or_concat (tl z) with h | ⟨i, e, h⟩
          · rw [h] at hc; cases hc
          · rw [List.concat_eq_append] at h
            rw [h]
            exact ⟨e, by simp, L2.atI_last i e⟩
        obtain ⟨e, he1, he2⟩ := hlast
        walk_at "rd"
        refine r_ixS (c := e) (by rw [sizeLine_eq]; omega) he2 ?_
        walk_at "rd"
        refine iteD (fun h3 => ?_) (fun h3 => ?_)
        · rw [str_one_eq] at h3
          rw [isConstL, if_pos ⟨by omega, by rw [hc, h2]; rfl, by rw [he1, h3]⟩] at k
          walk_at "rd"
          refine r_slS (by rw [sizeLine_eq]; omega) ?_
          walk_at "rd"
          have hcl : (cutS z (some 1) (some (-1))).length ≤ 100000 := by
            rw [← tl_length, cut_mid, List.length_dropLast, List.length_tail]
            omega
          have hcok : PyData.strOk (cutS z (some 1) (some (-1))) = true := by
            refine str_ok fun d hd => ?_
            have hd2 : d ∈ tl (cutS z (some 1) (some (-1))) := hd
            rw [cut_mid] at hd2
            have hd3 : d ∈ tl z := List.mem_of_mem_tail ((List.dropLast_sublist _).subset hd2)
            unfold PyData.strOk at hok
            rw [← Array.all_toList, List.all_eq_true] at hok
            exact of_decide_eq_true (hok d hd3)
          refine ⟨_, _, 8, rfl, .str _, by rw [fit, hcok, Bool.and_true]; exact decide_eq_true hcl, fun H' e => ?_⟩
          have e8 : isWordD 8 (.str (cutS z (some 1) (some (-1)))) = isWordL (tl z).tail.dropLast 8 := by
            rw [← cut_mid]
            exact isWordS_L _ 8
          rw [e8]
          exact k _ e
        · refine r_next ?_
          refine other _ ?_ rfl
          rintro ⟨_, _, h⟩
          rw [he1] at h
          injection h with h
          exact h3 (by rw [h])
      · refine iteF (r_next (other _ ?_ rfl))
        rintro ⟨_, h, _⟩
        rw [hc] at h
        have : c = 34 := by simpa using h
        exact h2 (by rw [this])
    · refine iteF (r_next (other _ ?_ rfl))
      rintro ⟨h, _⟩
      omega
end

end WP

set_option Elab.async false
set_option linter.all false
set_option maxRecDepth 100000
set_option maxHeartbeats 4000000
namespace WP
open PySem PySem.Spec PyProof.Rows L2
local macro_rules | `(tactic| walk_at "rd") => `(tactic| repeat (first
  | with_reducible refine r_seq ?_ | with_reducible refine r_callW ?_ | with_reducible refine r_tru ?_ | with_reducible refine r_var rfl ?_ | with_reducible refine r_c ?_ | with_reducible refine r_op ?_ | with_reducible refine r_cons ?_ | with_reducible refine r_nil ?_
  | with_reducible refine r_cb ?_ | with_reducible refine r_call ?_ | with_reducible refine r_test ?_ | with_reducible refine r_B ?_ | with_reducible refine r_bl ?_ | with_reducible refine r_asg ?_ | with_reducible refine r_asgS ?_
  | with_reducible refine r_ret ?_ | with_reducible refine r_drop ?_ | with_reducible refine r_ifS ?_ | with_reducible refine r_if ?_ | with_reducible refine r_and ?_ | with_reducible refine r_or ?_ | with_reducible refine r_not ?_
  | with_reducible refine r_andV ?_ | with_reducible refine r_orV ?_ | with_reducible refine r_notV ?_ | with_reducible refine r_chain ?_ | with_reducible refine r_sl ?_ | with_reducible refine r_nopart ?_ | with_reducible refine r_part ?_
  | with_reducible refine r_intO ?_ | with_reducible refine r_two ?_ | with_reducible refine r_m1 ?_ | with_reducible refine r_bm ?_ | with_reducible refine r_next ?_ | with_reducible refine r_gCons ?_ | with_reducible refine r_gNil ?_ | with_reducible refine r_asgT ?_ | with_reducible refine r_for ?_ | with_reducible refine r_rng1 ?_ | with_reducible refine r_iList ?_ | with_reducible refine r_iAny ?_ | with_reducible refine r_lc ?_ | with_reducible refine r_yes ?_ | with_reducible refine r_gN ?_ | with_reducible refine r_par ?_ | with_reducible refine r_un ?_ | with_reducible refine r_brk ?_ | with_reducible refine r_cont ?_
  | with_reducible refine r_I0 ?_ | with_reducible refine r_U ?_ | with_reducible refine r_addI ?_ | with_reducible refine r_abs ?_ | with_reducible refine r_intI ?_ | with_reducible refine r_max2 ?_ | with_reducible refine r_min2 ?_
  | with_reducible refine r_ltI ?_ | with_reducible refine r_leI ?_ | with_reducible refine r_gtI ?_ | with_reducible refine r_geI ?_ | with_reducible refine r_isN_non ?_ | with_reducible refine r_isN_int ?_ | with_reducible refine r_isN_str ?_ | with_reducible refine r_isN_bl ?_ | with_reducible refine r_isN_ref ?_ | with_reducible refine r_isN ?_ | with_reducible refine r_isB ?_ | with_reducible refine r_isnotN_non ?_ | with_reducible refine r_isnotN_int ?_ | with_reducible refine r_isnotN_str ?_ | with_reducible refine r_isnotN_bl ?_ | with_reducible refine r_isnotN_ref ?_ | with_reducible refine r_isnotN ?_ | with_reducible refine r_isnotB ?_
  | with_reducible refine r_inS ?_ | with_reducible refine r_eqS rfl ?_ | with_reducible refine r_neS rfl ?_ | with_reducible refine r_lst ?_ | with_reducible refine r_tup ?_ | with_reducible refine iteT ?_ | with_reducible refine iteF ?_))
local macro_rules | `(tactic| walk_at "isi") => `(tactic| (first
  | with_reducible refine r_isi_non_int ?_
  | with_reducible refine r_isi_non_str ?_
  | with_reducible refine r_isi_non_list ?_
  | with_reducible refine r_isi_non_tuple ?_
  | with_reducible refine r_isi_non_bool ?_
  | with_reducible refine r_isi_bl_int ?_
  | with_reducible refine r_isi_bl_str ?_
  | with_reducible refine r_isi_bl_list ?_
  | with_reducible refine r_isi_bl_tuple ?_
  | with_reducible refine r_isi_bl_bool ?_
  | with_reducible refine r_isi_int_int ?_
  | with_reducible refine r_isi_int_str ?_
  | with_reducible refine r_isi_int_list ?_
  | with_reducible refine r_isi_int_tuple ?_
  | with_reducible refine r_isi_int_bool ?_
  | with_reducible refine r_isi_str_int ?_
  | with_reducible refine r_isi_str_str ?_
  | with_reducible refine r_isi_str_list ?_
  | with_reducible refine r_isi_str_tuple ?_
  | with_reducible refine r_isi_str_bool ?_
  | with_reducible refine r_isi_lst_int (SqL.of (by assumption)) ?_
  | with_reducible refine r_isi_lst_str (SqL.of (by assumption)) ?_
  | with_reducible refine r_isi_lst_list (SqL.of (by assumption)) ?_
  | with_reducible refine r_isi_lst_tuple (SqL.of (by assumption)) ?_
  | with_reducible refine r_isi_lst_bool (SqL.of (by assumption)) ?_
  | with_reducible refine r_isi_tup_int (SqT.of (by assumption)) ?_
  | with_reducible refine r_isi_tup_str (SqT.of (by assumption)) ?_
  | with_reducible refine r_isi_tup_list (SqT.of (by assumption)) ?_
  | with_reducible refine r_isi_tup_tuple (SqT.of (by assumption)) ?_
  | with_reducible refine r_isi_tup_bool (SqT.of (by assumption)) ?_))
local macro_rules | `(tactic| walk_at "rs") => `(tactic| (first
  | ((with_reducible refine iteTc ?hc ?_); (case hc => rfl)) | ((with_reducible refine iteFc ?hc ?_); (case hc => rfl))
  | walk_at "isi"
  | refine r_ixL (SqL.of (by assumption)) rfl ?_ | refine r_ixL (SqL.of upd_same) rfl ?_
  | refine r_I (C := fun _ j => 0 < j) (by first | decide | assumption | omega) ?_
  | refine r_mulI (.inl ⟨by decide, by decide⟩) ?_ | refine r_mulI (.inr ⟨by decide, by decide⟩) ?_ | refine r_mulI (.inr ⟨by omega, by omega⟩) ?_ | refine r_mulI (.inl ⟨by omega, by omega⟩) ?_
  | refine r_I (wide_div (b := 64) (by decide) (by decide) (by decide) (by decide)) ?_
  | refine r_I (C := CPow) ⟨by decide, by decide, by decide⟩ ?_
  | refine r_setL (by assumption) rfl ?_ | refine r_setL upd_same rfl ?_))
local macro_rules | `(tactic| walk_at "rx") => `(tactic| (walk_at "rd"; (repeat (walk_at "rs"; walk_at "rd"))))

abbrev N_is_call : List Str := ["thing", "name", "sign", "rest", "words", "word"]
theorem sc_is_call : FnScope N_is_call ["thing"] (defScope s_is_call) := ⟨rfl, rfl, rfl, by decide +kernel, rfl, by decide +kernel, by decide +kernel⟩
section
variable {P : Program} {w : World} {K : PySem.W.Frag} {mg : Str → Option Value} {base : Heap}
theorem shutE : (")" : Str) = ⟨#[41]⟩ := by decide +kernel
theorem openE : ("(" : Str) = SX.S [40] := by decide +kernel
theorem commaE : (", " : Str) = SX.S [44, 32] := by decide +kernel
def cV : V → V
  | .str z => .bl (isConstL (tl z))
  | _ => .bl false
theorem c_is_call_ (F : At K mg "is_call" s_is_call) (B : Bl mg) (c_is_name : Cal P w K mg base 2 "is_name" (spB1 K isNameD)) (c_is_constant_text : Cal P w K mg base 2 "is_constant_text" (fun vs H Q E => spS1 isConstL vs H Q E ∧ ∀ z, vs = [.str z] → PyData.strOk z = true)) : Cal P w K mg base 3 "is_call" (spB1 K isCallD) := by
  refine cal_of F sc_is_call (fun vs H Q E h => ?_) (fun _ _ _ _ _ _ us hl => match us, hl with | [_], _ => rfl) (fun f cdv A outer s H vs Q E hr h => ?_)
  · obtain ⟨v, d, rfl, _⟩ := h
    rfl
  · obtain ⟨v, d, rfl, hd, hf, k⟩ := h
    refine ⟨_, (pss_cons (ps_if (PW.pt (pw_or (pt_not (pt_val (pe_callB (call_isinstanceA K) rfl B.isinstance (by decide +kernel) (pa_cons (pv 0) (pa_cons (pe_bltn (v := .ty "str") rfl B.str (by decide +kernel) rfl) pa_nil))))) (pw_or1 (pt_not (pt_val (pe_m1 PySem.F.slot_str_endswith PySem.F.type_str_endswith mt_endswith (pv 0) pe_str))))))
   (pss_one (ps_ret pe_bl))
   pss_nil)
  (pss_cons (ps_asg (pe_partition (pe_slice (sl_A K) (pv 0) po_none (po_some (pe_un un_neg pe_int))) pe_str) (pg_tupA K (n := 3) (pg_tup rfl (pgs_cons (pg_name (i := 1) sc_is_call.nd rfl (Or.inl rfl)) (pgs_cons (pg_name (i := 2) sc_is_call.nd rfl (Or.inl rfl)) (pgs_cons (pg_name (i := 3) sc_is_call.nd rfl (Or.inl rfl)) pgs_nil))))))
  (pss_cons (ps_if (PW.pt (pw_or (pt_cmpR (op_eqA K hr.units) (pv 2) pe_str (nomark _)) (pw_or1 (pt_not (pt_val (pe_cA c_is_name hr (by omega) rfl (pa_cons (pv 1) pa_nil)))))))
   (pss_one (ps_ret pe_bl))
   pss_nil)
  (pss_cons (ps_set (i := 4) sc_is_call.nd rfl (Or.inl rfl) (pe_ifExp (pt_cmpR (op_neA K hr.units) (pv 3) pe_str (nomark _)) (pe_split (pv 3) pe_str) (pe_lst pa_nil)))
  (pss_one (ps_ret (pe_and (pe_cmpR op_leA (pe_callB (call_lenA K) rfl B.len (by decide +kernel) (pa_cons (pv 4) pa_nil)) pe_int (nomark _)) (pe_one (pe_callB (call_allA K rfl) rfl B.all (by decide +kernel) (pa_cons (pe_lc (own := [("word", 5)]) rfl sc_is_call.nd (pi_any K (pv 4)) (blkOk_by (N := N_is_call) (sc := defScope s_is_call) (by decide +kernel)) (fun _ _ _ _ _ => (pg_name (i := 5) sc_is_call.nd rfl (Or.inl rfl))) (fun _ _ _ _ _ => pts_nil) (fun _ _ _ _ _ => (pe_cA c_is_constant_text hr (by omega) rfl (pa_cons (pv 5) pa_nil)))) pa_nil)))))))))), ?_⟩
    cases hd with
    | lst s r => walk_at "rd"; refine r_isi_lst_str s ?_; walk_at "rx"; exact k _ (Evl.Ex.refl _)
    | tup s r => walk_at "rd"; refine r_isi_tup_str s ?_; walk_at "rx"; exact k _ (Evl.Ex.refl _)
    | str z =>
      obtain ⟨hz, hok⟩ := fit_str hf
      rw [strOk_iff] at hok
      have hzl := tl_length z
      replace k : ∀ H', Evl.Ex H H' → Q (.bl (isCallL (tl z))) H' := k
      rw [isCallL] at k
      walk_at "rx"
      refine ⟨⟨_, rfl⟩, ?_⟩
      walk_at "rd"
      refine ⟨z, _, rfl, rfl, ?_⟩
      rw [shutE, ends_one]
      walk_at "rd"
      refine iteND (fun h1 => ?_) (fun h1 => ?_)
      · rw [decide_eq_false h1, Bool.false_and] at k
        walk_at "rd"
        exact k _ (Evl.Ex.refl _)
      · rw [decide_eq_true h1, Bool.true_and] at k
        walk_at "rd"
        refine r_slS (by rw [sizeLine_eq]; omega) ?_
        have hci : tl (cutS z none (some (-1))) = (tl z).dropLast := cut_init z
        generalize hct : cutS z none (some (-1)) = ct at hci
        have hctl : ct.length ≤ 100000 := by rw [← tl_length, hci, List.length_dropLast]; omega
        have hcc : ∀ c ∈ tl ct, c < 1114112 := fun c hc => hok c (by rw [hci] at hc; exact (List.dropLast_sublist _).subset hc)
        rw [← hci] at k
        refine ⟨⟨_, rfl⟩, ?_⟩
        walk_at "rd"
        refine ⟨ct, _, rfl, rfl, by decide +kernel, by rw [sizeLine_eq]; omega, fun p hp => ?_⟩
        rw [openE]
        have eS : ct = SX.S (tl ct) := (str_eta ct).symm
        cases hpar : TL.par [40] [] (tl ct) with
        | none =>
          have e := SX.partition_none (a := tl ct) (b := [40]) (by simp) hpar
          rw [← eS] at e
          rw [e]
          dsimp only
          rw [hpar] at k
          refine r_gTup (SqT.of upd_same) rfl ?_
          walk_at "rd"
          refine iteY (by decide +kernel) ?_
          walk_at "rd"
          exact k _ (Evl.Ex.new hp)
        | some nr =>
          obtain ⟨nm, rs⟩ := nr
          have e := SX.partition_some (a := tl ct) (b := [40]) (by simp) hpar
          rw [← eS] at e
          rw [e]
          dsimp only
          rw [hpar] at k
          dsimp only at k
          obtain ⟨m1, m2, m3, m4⟩ := par_mem _ _ _ _ hpar
          have hctl2 := tl_length ct
          rw [List.length_nil, Nat.zero_add] at m3
          refine r_gTup (SqT.of upd_same) rfl ?_
          walk_at "rd"
          refine iteN (by decide +kernel) ?_
          walk_at "rd"
          have hfn : fit (.str (SX.S nm)) = true := fit_of (by show nm.length ≤ _; omega) (fun c hc => by rcases m1 c hc with h | h; cases h; exact hcc c h)
          refine ⟨_, _, rfl, .str (SX.S nm), hfn, fun H1 e1 => ?_⟩
          walk_at "rd"
          have en : isNameD (.str (SX.S nm)) = isNameL nm := rfl
          rw [en]
          refine iteNB (fun h2 => ?_) (fun h2 => ?_)
          · rw [h2, Bool.false_and] at k
            walk_at "rd"
            exact k _ ((Evl.Ex.new hp).trans e1)
          · rw [h2, Bool.true_and] at k
            walk_at "rd"
            have e01 := (Evl.Ex.new (o := .tup [.str (SX.S nm), .str (SX.S [40]), .str (SX.S rs)]) hp).trans e1
            have hrs : ∀ c ∈ rs, c < 1114112 := fun c hc => hcc c (m2 c hc)
            -- words
            have tail : ∀ (D : Ends) (W : Addr) (H2 : Hp) (u0 u1 u2 u3 u5 : Option V), Evl.Ex H1 H2 → H2 W = some (.lst ((wordsL rs).map fun p => V.str (SX.S p))) → D.rt = Q →
                tRet (tAndV (tOp rLeA (tCB (rLenA K) (tCons (tVar 4) tNil)) (tC (.int 3))) (tCB (rAll K) (tCons (tLc (iAny K (tVar 4)) (gName 5) tYes (tCall (fun vs H Q E => spS1 isConstL vs H Q E ∧ ∀ z, vs = [.str z] → PyData.strOk z = true) [] L2.E0 (tCons (tVar 5) tNil)) (List.map (fun x => x.snd) [(Str.ofString "word", 5)])) tNil))) D [u0, u1, u2, u3, some (.ref W), u5] H2 := by
              intro D W H2 u0 u1 u2 u3 u5 e2 hW hD
              have hwm : ∀ p ∈ wordsL rs, p.length ≤ rs.length ∧ ∀ c ∈ p, c ∈ rs := by
                intro p hp
                unfold wordsL at hp
                split at hp
                · cases hp
                · obtain ⟨h1, h2⟩ := spl_mem _ _ _ _ hp
                  exact ⟨by simpa using h1, fun c hc => by rcases h2 c hc with h | h; cases h; exact h⟩
              walk_at "rd"
              refine r_lenL (SqL.of hW) ?_
              walk_at "rd"
              rw [List.length_map]
              refine iteD (fun h3 => ?_) (fun h3 => ?_)
              · rw [decide_eq_true (show (wordsL rs).length ≤ 3 by omega), Bool.true_and] at k
                walk_at "rd"
                refine .inl ⟨W, rfl, ⟨_, SqL.of hW⟩, ?_⟩
                intro D1 hD1
                refine lc_seq (K := K) (a := W) hD1 cV (SqL.of hW) ?_ ?_ ?_ ?_
                · exact fun _ => rfl
                · rw [List.length_map]; omega
                · intro v hv H' e1 Q' q
                  obtain ⟨p, hpm, rfl⟩ := List.mem_map.mp hv
                  obtain ⟨w1, w2⟩ := hwm p hpm
                  walk_at "rd"
                  refine ⟨⟨SX.S p, rfl, by rw [SX.S_len]; omega, fun H' e => q _ e⟩, fun z hz => ?_⟩
                  have : z = SX.S p := by simpa using hz.symm
                  rw [this, strOk_iff]
                  exact fun c hc => hrs c (w2 c hc)
                · intro H' e3 hD2
                  walk_at "rd"
                  refine r_all (bs := (wordsL rs).map isConstL) (by rw [hD2, List.map_map, List.map_map]; rfl) ?_
                  rw [List.all_map, hD]
                  exact k _ ((e01.trans e2).trans e3)
              · rw [decide_eq_false (show ¬ (wordsL rs).length ≤ 3 by omega), Bool.false_and] at k
                walk_at "rd"
                rw [hD]
                exact k _ (e01.trans e2)
            refine iteND (fun h3 => ?_) (fun h3 => ?_)
            · walk_at "rd"
              refine ⟨⟨_, rfl⟩, ?_⟩
              walk_at "rd"
              refine ⟨_, _, rfl, rfl, by decide +kernel, by rw [SX.S_len, sizeLine_eq]; omega, fun W hW => ?_⟩
              refine tail _ W _ _ _ _ _ _ (Evl.Ex.new hW) ?_ rfl
              have hne : rs ≠ [] := fun e => h3 (by subst e; decide +kernel)
              rw [upd_same, commaE, SX.split_S (by simp) (by decide), wordsL, if_neg hne, List.map_map]
              rfl
            · walk_at "rd"
              refine ⟨Nat.zero_le _, fun W hW => ?_⟩
              refine tail _ W _ _ _ _ _ _ (Evl.Ex.new hW) ?_ rfl
              have hne : rs = [] := by
                injection h3 with h3
                have : tl (SX.S rs) = tl ("" : Str) := by rw [h3]
                exact this.trans (by decide +kernel)
              rw [upd_same, wordsL, if_pos hne]
              rfl
    | _ => walk_at "rx"; exact k _ (Evl.Ex.refl _)
end

def spPath (K : PySem.W.Frag) : Sp := fun vs H Q _ => ∃ (v : V) (ag : Bool) (d : PyData), vs = [v, .bl ag] ∧ Dp K H v d ∧ fit d = true ∧ ∀ H', Evl.Ex H H' → Q (.bl (isPathD ag d)) H'
abbrev N_is_path : List Str := ["thing", "ageing", "call"]
theorem sc_is_path : FnScope N_is_path ["thing", "ageing"] (defScope s_is_path) := ⟨rfl, rfl, rfl, by decide +kernel, rfl, by decide +kernel, by decide +kernel⟩
section
variable {P : Program} {w : World} {K : PySem.W.Frag} {mg : Str → Option Value} {base : Heap}
theorem b_is_path (B : Bl mg) (c_is_call : Cal P w K mg base 3 "is_call" (spB1 K isCallD)) {f : Addr} {cdv : Value} {A : Around} {outer : List Env} {s : Shared} {H : Hp} {vs : List V} {Q : VK} {E : XK} (hr : Room 3 (A.deeper (envOfC "is_path" (defScope s_is_path) s.heap.objs.size f cdv))) (h : spPath K vs H Q E) :
    ∃ t, PSs (cxOf L2.CX0 P w K mg base N_is_path "is_path" (defScope s_is_path) f cdv A outer s H E).nox (defBody s_is_path) t ∧ t { nx := fun _ H' => Q .non H', rt := Q } (start N_is_path vs) H := by
  obtain ⟨v, ag, d, rfl, hd, hf, k⟩ := h
  refine ⟨_, (pss_cons (ps_if (PW.pt (pw_or (pt_not (pt_val (pe_callB (call_isinstanceA K) rfl B.isinstance (by decide +kernel) (pa_cons (pv 0) (pa_cons (pe_bltn (v := .ty "tuple") rfl B.tuple (by decide +kernel) rfl) pa_nil))))) (pw_or (pt_cmpR (op_eqA K hr.units) (pe_callB (call_lenA K) rfl B.len (by decide +kernel) (pa_cons (pv 0) pa_nil)) pe_int (nomark _)) (pw_or1 (PW.pt (pw_and (pt_not (pt_truthA K (pv 1) (by intro _; rfl))) (pw_and1 (pt_cmpR op_gtA (pe_callB (call_lenA K) rfl B.len (by decide +kernel) (pa_cons (pv 0) pa_nil)) pe_int (nomark _)))))))))
   (pss_one (ps_ret pe_bl))
   pss_nil)
  (pss_one (ps_ret (pe_callB (call_allA K rfl) rfl B.all (by decide +kernel) (pa_cons (pe_lc (own := [("call", 2)]) rfl sc_is_path.nd (pi_any K (pv 0)) (blkOk_by (N := N_is_path) (sc := defScope s_is_path) (by decide +kernel)) (fun _ _ _ _ _ => (pg_name (i := 2) sc_is_path.nd rfl (Or.inl rfl))) (fun _ _ _ _ _ => pts_nil) (fun _ _ _ _ _ => (pe_cA c_is_call hr (by omega) rfl (pa_cons (pv 2) pa_nil)))) pa_nil))))), ?_⟩
  cases hd with
  | @tup a xs ds s r =>
    have hl := DpAll.length r
    have hfl := fit_tuple hf
    replace k : ∀ H', Evl.Ex H H' → Q (.bl (!(decide (ds.length = 0) || (!ag && decide (1 < ds.length))) && ds.all isCallD)) H' := k
    walk_at "rd"
    refine r_isi_tup_tuple s ?_
    walk_at "rx"
    refine r_lenT s ?_
    walk_at "rd"
    refine iteD (fun h1 => ?_) (fun h1 => ?_)
    · have h1 : (xs.length : Int) = 0 := by injection h1
      rw [decide_eq_true (show ds.length = 0 by omega)] at k
      walk_at "rd"
      exact k _ (Evl.Ex.refl _)
    · have h1 : ¬ (xs.length : Int) = 0 := fun e => h1 (by rw [e])
      rw [decide_eq_false (show ¬ ds.length = 0 by omega)] at k
      have tail : ∀ (D : Ends) (u2 : Option V), D.rt = Q → (!ag && decide (1 < ds.length)) = false → tRet (tCB (rAll K) (tCons (tLc (iAny K (tVar 0)) (gName 2) tYes (tCall (spB1 K isCallD) [] L2.E0 (tCons (tVar 2) tNil)) (List.map (fun x => x.snd) [(Str.ofString "call", 2)])) tNil)) D [some (.ref a), some (.bl ag), u2] H := by
        intro D u2 hD hz
        rw [hz] at k
        walk_at "rd"
        refine .inr (.inl ⟨a, rfl, ⟨_, s⟩, ?_⟩)
        intro D hD1
        refine lc_pure (walk_tup (K := K) (a := a) (xs := xs)) hD1 (fun i => xs.getD i .non) (fun i => .bl (isCallD (ds.getD i .none))) ?_ (fun _ e => Evl.ex_t e s) ?_ (by omega) ?_ ?_
        · rintro i H x H' hi _ ⟨e, hx⟩
          exact ⟨e, by rw [List.getD_eq_getElem?_getD, hx]; rfl⟩
        · exact fun _ => rfl
        · intro i hi H' e1 Q' q
          walk_at "rd"
          have hx : xs[i]? = some (xs.getD i .non) := by rw [List.getD_eq_getElem?_getD, List.getElem?_eq_getElem hi]; rfl
          obtain ⟨d, h1, h2⟩ := DpAll.get r hx
          refine ⟨_, d, rfl, Dp.mono e1 h2, fitAll_mem hfl.2 (List.mem_of_getElem? h1), fun H2 e2 => ?_⟩
          have := q _ e2
          rw [List.getD_eq_getElem?_getD (a := PyData.none), h1] at this
          exact this
        · intro H' e1 hD2
          walk_at "rd"
          refine r_all (bs := ds.map isCallD) ?_ ?_
          · rw [hD2]
            congr 2
            refine List.ext_getElem (by simp [hl]) fun i h1 h2 => ?_
            simp at h1 h2
            simp [List.getElem?_eq_getElem h2]
          · rw [List.all_map, hD]
            exact k _ e1
      walk_at "rd"
      refine ⟨ag, rfl, ?_⟩
      refine iteNB (fun h2 => ?_) (fun h2 => ?_)
      · subst h2
        walk_at "rd"
        refine r_lenT s ?_
        walk_at "rd"
        refine iteD (fun h3 => ?_) (fun h3 => ?_)
        · rw [decide_eq_true (show 1 < ds.length by omega)] at k
          walk_at "rd"
          exact k _ (Evl.Ex.refl _)
        · refine tail _ _ rfl ?_
          rw [decide_eq_false (show ¬ 1 < ds.length by omega)]
          rfl
      · refine tail _ _ rfl ?_
        rw [h2]
        rfl
  | lst s r => walk_at "rd"; refine r_isi_lst_tuple s ?_; walk_at "rx"; exact k _ (Evl.Ex.refl _)
  | _ => walk_at "rx"; exact k _ (Evl.Ex.refl _)
theorem c_is_path_1_ (F : AtD K mg "is_path" s_is_path [] [("ageing", .bl false)]) (B : Bl mg) (c_is_call : Cal P w K mg base 3 "is_call" (spB1 K isCallD)) : CalD P w K mg base 4 "is_path" (spPath K) [.bl false] :=
  calD0_of F sc_is_path (fun vs H Q E h => by obtain ⟨v, ag, d, rfl, _⟩ := h; rfl) (fun f cdv A outer s H vs Q E hr h => b_is_path B c_is_call hr h) 1 (by simp) rfl (fun D doc pm an cdv ct us ks h1 h2 => by
    match us, h1, ks, h2 with
    | [_], _, [_], _ => exact ⟨_, _, _, _, _, _, rfl, rfl, rfl⟩)
theorem c_is_path_1k1_ (F : AtD K mg "is_path" s_is_path [] [("ageing", .bl false)]) (B : Bl mg) (c_is_call : Cal P w K mg base 3 "is_call" (spB1 K isCallD)) : CalK P w K mg base 4 "is_path" (spPath K) 1 ["ageing"] :=
  calK_of F sc_is_path (fun vs H Q E h => by obtain ⟨v, ag, d, rfl, _⟩ := h; rfl) (fun f cdv A outer s H vs Q E hr h => b_is_path B c_is_call hr h) 1 _ (fun kV doc pm an cdv ct us ks h1 h2 => by
    match us, h1, ks, h2 with
    | [_], _, [_], _ => rfl)
theorem c_is_path_0k2_ (F : AtD K mg "is_path" s_is_path [] [("ageing", .bl false)]) (B : Bl mg) (c_is_call : Cal P w K mg base 3 "is_call" (spB1 K isCallD)) : CalK P w K mg base 4 "is_path" (spPath K) 0 ["thing", "ageing"] :=
  calK_of F sc_is_path (fun vs H Q E h => by obtain ⟨v, ag, d, rfl, _⟩ := h; rfl) (fun f cdv A outer s H vs Q E hr h => b_is_path B c_is_call hr h) 0 _ (fun kV doc pm an cdv ct us ks h1 h2 => by
    match us, h1, ks, h2 with
    | [], _, [_, _], _ => rfl)
end

end WP

set_option Elab.async false
set_option linter.all false
set_option maxRecDepth 100000
set_option maxHeartbeats 4000000
namespace WP
open PySem PySem.Spec PyProof.Rows L2
local macro_rules | `(tactic| walk_at "rd") => `(tactic| repeat (first
  | with_reducible refine r_seq ?_ | with_reducible refine r_tru ?_ | with_reducible refine r_var rfl ?_ | with_reducible refine r_c ?_ | with_reducible refine r_op ?_ | with_reducible refine r_cons ?_ | with_reducible refine r_nil ?_
  | with_reducible refine r_cb ?_ | with_reducible refine r_call ?_ | with_reducible refine r_test ?_ | with_reducible refine r_B ?_ | with_reducible refine r_bl ?_ | with_reducible refine r_asg ?_ | with_reducible refine r_asgS ?_
  | with_reducible refine r_ret ?_ | with_reducible refine r_drop ?_ | with_reducible refine r_ifS ?_ | with_reducible refine r_if ?_ | with_reducible refine r_and ?_ | with_reducible refine r_or ?_ | with_reducible refine r_not ?_
  | with_reducible refine r_andV ?_ | with_reducible refine r_orV ?_ | with_reducible refine r_notV ?_ | with_reducible refine r_chain ?_ | with_reducible refine r_sl ?_ | with_reducible refine r_nopart ?_ | with_reducible refine r_part ?_
  | with_reducible refine r_intO ?_ | with_reducible refine r_two ?_ | with_reducible refine r_m1 ?_ | with_reducible refine r_bm ?_ | with_reducible refine r_next ?_ | with_reducible refine r_gCons ?_ | with_reducible refine r_gNil ?_ | with_reducible refine r_asgT ?_ | with_reducible refine r_for ?_ | with_reducible refine r_rng1 ?_ | with_reducible refine r_iList ?_ | with_reducible refine r_iAny ?_ | with_reducible refine r_lc ?_ | with_reducible refine r_yes ?_ | with_reducible refine r_gN ?_ | with_reducible refine r_par ?_ | with_reducible refine r_un ?_ | with_reducible refine r_brk ?_ | with_reducible refine r_cont ?_
  | with_reducible refine r_I0 ?_ | with_reducible refine r_U ?_ | with_reducible refine r_addI ?_ | with_reducible refine r_abs ?_ | with_reducible refine r_intI ?_ | with_reducible refine r_max2 ?_ | with_reducible refine r_min2 ?_
  | with_reducible refine r_ltI ?_ | with_reducible refine r_leI ?_ | with_reducible refine r_gtI ?_ | with_reducible refine r_geI ?_ | with_reducible refine r_isN_non ?_ | with_reducible refine r_isN_int ?_ | with_reducible refine r_isN_str ?_ | with_reducible refine r_isN_bl ?_ | with_reducible refine r_isN_ref ?_ | with_reducible refine r_isN ?_ | with_reducible refine r_isB ?_ | with_reducible refine r_isnotN_non ?_ | with_reducible refine r_isnotN_int ?_ | with_reducible refine r_isnotN_str ?_ | with_reducible refine r_isnotN_bl ?_ | with_reducible refine r_isnotN_ref ?_ | with_reducible refine r_isnotN ?_ | with_reducible refine r_isnotB ?_
  | with_reducible refine r_inS ?_ | with_reducible refine r_eqS rfl ?_ | with_reducible refine r_neS rfl ?_ | with_reducible refine r_lst ?_ | with_reducible refine r_tup ?_ | with_reducible refine iteT ?_ | with_reducible refine iteF ?_))
local macro_rules | `(tactic| walk_at "isi") => `(tactic| (first
  | with_reducible refine r_isi_non_int ?_
  | with_reducible refine r_isi_non_str ?_
  | with_reducible refine r_isi_non_list ?_
  | with_reducible refine r_isi_non_tuple ?_
  | with_reducible refine r_isi_non_bool ?_
  | with_reducible refine r_isi_bl_int ?_
  | with_reducible refine r_isi_bl_str ?_
  | with_reducible refine r_isi_bl_list ?_
  | with_reducible refine r_isi_bl_tuple ?_
  | with_reducible refine r_isi_bl_bool ?_
  | with_reducible refine r_isi_int_int ?_
  | with_reducible refine r_isi_int_str ?_
  | with_reducible refine r_isi_int_list ?_
  | with_reducible refine r_isi_int_tuple ?_
  | with_reducible refine r_isi_int_bool ?_
  | with_reducible refine r_isi_str_int ?_
  | with_reducible refine r_isi_str_str ?_
  | with_reducible refine r_isi_str_list ?_
  | with_reducible refine r_isi_str_tuple ?_
  | with_reducible refine r_isi_str_bool ?_
  | with_reducible refine r_isi_lst_int (SqL.of (by assumption)) ?_
  | with_reducible refine r_isi_lst_str (SqL.of (by assumption)) ?_
  | with_reducible refine r_isi_lst_list (SqL.of (by assumption)) ?_
  | with_reducible refine r_isi_lst_tuple (SqL.of (by assumption)) ?_
  | with_reducible refine r_isi_lst_bool (SqL.of (by assumption)) ?_
  | with_reducible refine r_isi_tup_int (SqT.of (by assumption)) ?_
  | with_reducible refine r_isi_tup_str (SqT.of (by assumption)) ?_
  | with_reducible refine r_isi_tup_list (SqT.of (by assumption)) ?_
  | with_reducible refine r_isi_tup_tuple (SqT.of (by assumption)) ?_
  | with_reducible refine r_isi_tup_bool (SqT.of (by assumption)) ?_))
local macro_rules | `(tactic| walk_at "rs") => `(tactic| (first
  | ((with_reducible refine iteTc ?hc ?_); (case hc => rfl)) | ((with_reducible refine iteFc ?hc ?_); (case hc => rfl))
  | walk_at "isi"
  | refine r_ixL (SqL.of (by assumption)) rfl ?_ | refine r_ixL (SqL.of upd_same) rfl ?_
  | refine r_I (C := fun _ j => 0 < j) (by first | decide | assumption | omega) ?_
  | refine r_mulI (.inl ⟨by decide, by decide⟩) ?_ | refine r_mulI (.inr ⟨by decide, by decide⟩) ?_ | refine r_mulI (.inr ⟨by omega, by omega⟩) ?_ | refine r_mulI (.inl ⟨by omega, by omega⟩) ?_
  | refine r_I (wide_div (b := 64) (by decide) (by decide) (by decide) (by decide)) ?_
  | refine r_I (C := CPow) ⟨by decide, by decide, by decide⟩ ?_
  | refine r_setL (by assumption) rfl ?_ | refine r_setL upd_same rfl ?_))
local macro_rules | `(tactic| walk_at "rx") => `(tactic| (walk_at "rd"; (repeat (walk_at "rs"; walk_at "rd"))))

/-! ### the draws -/
def spTake : Sp := fun vs H Q _ => ∃ (b : Addr) (m : Int) (n : Nat), vs = [.ref b, .int m] ∧ Bag b n H ∧ n < 1000000000000 ∧ 0 < m ∧ m < 2 ^ 200 ∧
  ∀ (d : Int) (H' : Hp), 0 ≤ d → d < m → Drw b (n + 1) H H' → Q (.int d) H'
abbrev N_law_take : List Str := ["_law_bag_here", "_law_many", "_law_digit", "_law_mixed"]
theorem sc_law_take : FnScope N_law_take ["_law_bag_here", "_law_many"] (defScope s_law_take) := ⟨rfl, rfl, rfl, by decide +kernel, rfl, by decide +kernel, by decide +kernel⟩
section
variable {P : Program} {w : World} {K : PySem.W.Frag} {mg : Str → Option Value} {base : Heap}
theorem c_take (F : At K mg "_law_take" s_law_take) (B : Bl mg) : Cal P w K mg base 1 "_law_take" spTake := by
  refine cal_of F sc_law_take (fun vs H Q E h => ?_) (fun _ _ _ _ _ _ us hl => match us, hl with | [_, _], _ => rfl) (fun f cdv A outer s H vs Q E hr h => ?_)
  · obtain ⟨b, m, n, rfl, _⟩ := h
    rfl
  · obtain ⟨b, m, n, rfl, ⟨l, hb, x, y, z, rfl, hy0, hy1, hz0, hz1⟩, hn, hm0, hm1, k⟩ := h
    refine ⟨_, (pss_cons (ps_if (pt_cmpR op_gtA (pe_ix (ix_A K) (pv 0) pe_int (fun _ _ => rfl)) pe_int (nomark _))
   (pss_cons (ps_set (i := 2) sc_law_take.nd rfl (Or.inl rfl) (pe_op op_mod (pe_callTy call_intA rfl B.int (by decide +kernel) (pa_cons (pe_ix (ix_A K) (pv 0) pe_int (fun _ _ => rfl)) pa_nil)) (pv 1)))
  (pss_cons (ps_asg (pe_op op_fdivW (pe_ix (ix_A K) (pv 0) pe_int (fun _ _ => rfl)) (pv 1)) (pg_sub (pv 0) pe_int set_list))
  (pss_one (ps_ret (pv 2)))))
   pss_nil)
  (pss_cons (ps_asg (pe_op (op_addA K) (pe_ix (ix_A K) (pv 0) pe_int (fun _ _ => rfl)) pe_int) (pg_sub (pv 0) pe_int set_list))
  (pss_cons (ps_set (i := 3) sc_law_take.nd rfl (Or.inl rfl) (pe_op op_mod (pe_callTy call_intA rfl B.int (by decide +kernel) (pa_cons (pe_op op_mulA (pe_op (op_addA K) (pe_ix (ix_A K) (pv 0) pe_int (fun _ _ => rfl)) (pe_op op_mulA pe_int (pe_ix (ix_A K) (pv 0) pe_int (fun _ _ => rfl)))) (pe_op (op_addA K) (pe_ix (ix_A K) (pv 0) pe_int (fun _ _ => rfl)) pe_int)) pa_nil)) pe_int))
  (pss_one (ps_ret (pe_op op_mod (pe_callTy call_intA rfl B.int (by decide +kernel) (pa_cons (pe_op op_fdivW (pe_op op_mod (pe_callTy call_intA rfl B.int (by decide +kernel) (pa_cons (pe_op op_pow (pe_op (op_addA K) (pv 3) (pe_op op_mulA pe_int (pe_ix (ix_A K) (pv 0) pe_int (fun _ _ => rfl)))) pe_int) pa_nil)) pe_int) pe_int) pa_nil)) (pv 1))))))), ?_⟩
    walk_at "rx"
    refine iteD (fun hx => ?_) (fun hx => ?_)
    · walk_at "rx"
      refine r_I (wide_div (b := 200) hm0 (by omega) (by decide) (by decide)) ?_
      walk_at "rx"
      exact k _ _ (Int.emod_nonneg _ (by omega)) (Int.emod_lt_of_pos _ hm0) ⟨by rw [hid_bag]; exact Evl.Ex.refl _, _, upd_same, _, y, z, rfl, hy0, hy1, hz0, by omega⟩
    · walk_at "rx"
      have h2 : 0 ≤ (y + 40009 * (z + 1)) * (y + 7919) % 2147483647 := Int.emod_nonneg _ (by decide)
      have h3 : (y + 40009 * (z + 1)) * (y + 7919) % 2147483647 < 2147483647 := Int.emod_lt_of_pos _ (by decide)
      refine r_I (C := CPow) ⟨by decide, by decide, ?_⟩ ?_
      · revert h2 h3
        generalize (y + 40009 * (z + 1)) * (y + 7919) % 2147483647 = q
        intro h2 h3
        omega
      walk_at "rx"
      exact k _ _ (Int.emod_nonneg _ (by omega)) (Int.emod_lt_of_pos _ hm0) ⟨by rw [hid_bag]; exact Evl.Ex.refl _, _, upd_same, x, y, z + 1, rfl, hy0, hy1, by omega, by omega⟩
end

section
variable {P : Program} {w : World} {K : PySem.W.Frag} {mg : Str → Option Value} {base : Heap}
/-! one of a list, a tuple, a text -/
def spOf (K : PySem.W.Frag) : Sp := fun vs H Q _ => ∃ (b : Addr) (v : V) (n : Nat), vs = [.ref b, v] ∧ Bag b n H ∧ n < 1000000000000 ∧
  ((∃ (a : Addr) (xs : List V), v = .ref a ∧ SqA K (hid b H) a xs ∧ 0 < xs.length ∧ xs.length ≤ 100000 ∧ ∀ y ∈ xs, ∀ H', Drw b (n + 1) H H' → Q y H') ∨
   (∃ z : Str, v = .str z ∧ 0 < z.length ∧ z.length ≤ 100000 ∧ ∀ c ∈ z.cps.toList, ∀ H', Drw b (n + 1) H H' → Q (.str ⟨#[c]⟩) H'))
abbrev N_law_of : List Str := ["_law_bag_here", "_law_some"]
theorem sc_law_of : FnScope N_law_of ["_law_bag_here", "_law_some"] (defScope s_law_of) := ⟨rfl, rfl, rfl, by decide +kernel, rfl, by decide +kernel, by decide +kernel⟩
theorem c_of (F : At K mg "_law_of" s_law_of) (B : Bl mg) (c_law_take : Cal P w K mg base 1 "_law_take" spTake) : Cal P w K mg base 2 "_law_of" (spOf K) := by
  refine cal_of F sc_law_of (fun vs H Q E h => ?_) (fun _ _ _ _ _ _ us hl => match us, hl with | [_, _], _ => rfl) (fun f cdv A outer s H vs Q E hr h => ?_)
  · obtain ⟨b, v, n, rfl, _⟩ := h
    rfl
  · obtain ⟨b, v, n, rfl, hb, hn, h⟩ := h
    refine ⟨_, (pss_one (ps_ret (pe_ix (ix_A K) (pv 1) (pe_cA c_law_take hr (by omega) rfl (pa_cons (pv 0) (pa_cons (pe_callB (call_lenA K) rfl B.len (by decide +kernel) (pa_cons (pv 1) pa_nil)) pa_nil))) (fun _ _ => rfl)))), ?_⟩
    walk_at "rd"
    rcases h with ⟨a, xs, rfl, hs, h0, h1, k⟩ | ⟨z, rfl, h0, h1, k⟩
    · have hl : LenV K (.ref a) H xs.length := by
        rcases hs with hs | hs
        · exact .inl ⟨_, Evl.ex_l hid_ex hs, rfl⟩
        · exact .inr ⟨_, Evl.ex_t hid_ex hs, rfl⟩
      refine ⟨_, _, rfl, hl, ?_⟩
      walk_at "rd"
      refine ⟨b, _, n, rfl, hb, hn, by omega, by omega, fun d H' hd0 hd1 hd => ?_⟩
      obtain ⟨j, rfl⟩ := Int.eq_ofNat_of_zero_le hd0
      have hj : j < xs.length := by omega
      have hx : xs[j]? = some xs[j] := List.getElem?_eq_getElem hj
      rcases hs with hs | hs
      · refine r_ixL (Evl.ex_l hid_ex (hd.l hs)) (atI_nat hx) ?_
        exact k _ (List.getElem_mem hj) _ hd
      · refine r_ixT (Evl.ex_t hid_ex (hd.t hs)) (atI_nat hx) ?_
        exact k _ (List.getElem_mem hj) _ hd
    · refine r_lenS (by rw [sizeLine_eq]; omega) ?_
      walk_at "rd"
      refine ⟨b, _, n, rfl, hb, hn, by omega, by omega, fun d H' hd0 hd1 hd => ?_⟩
      obtain ⟨j, rfl⟩ := Int.eq_ofNat_of_zero_le hd0
      have hj : j < z.cps.toList.length := by
        have e : z.cps.toList.length = z.length := by simp [Str.length]
        omega
      refine r_ixS (by rw [sizeLine_eq]; omega) (atI_nat (List.getElem?_eq_getElem hj)) ?_
      exact k _ (List.getElem_mem hj) _ hd
end

section
variable {P : Program} {w : World} {K : PySem.W.Frag} {mg : Str → Option Value} {base : Heap}
/-! a word -/
def spWord : Sp := fun vs H Q _ => ∃ (b : Addr) (m n : Nat), vs = [.ref b, .int (m : Int)] ∧ Bag b n H ∧ n + m + 2 < 1000000000000 ∧ m ≤ 1000 ∧
  ∀ (z : Str) (H' : Hp), Word m z → Drw b (n + m + 2) H H' → Q (.str z) H'
abbrev N_law_word : List Str := ["_law_bag_here", "_law_most", "_law_turn"]
theorem sc_law_word : FnScope N_law_word ["_law_bag_here", "_law_most"] (defScope s_law_word) := ⟨rfl, rfl, rfl, by decide +kernel, rfl, by decide +kernel, by decide +kernel⟩
theorem small_eq : ("abcdefghijklmnopqrstuvwxyz" : Str).cps.toList = (List.range 26).map (· + 97) := by decide +kernel
theorem small_ok {c : Nat} (h : c ∈ ("abcdefghijklmnopqrstuvwxyz" : Str).cps.toList) : 97 ≤ c ∧ c ≤ 122 := by
  rw [small_eq] at h
  obtain ⟨x, hx, rfl⟩ := List.mem_map.mp h
  have := List.mem_range.mp hx
  omega
theorem tl_join0 : ∀ cs : List Nat, (Txt.join ("" : Str) (cs.map fun c => (⟨#[c]⟩ : Str))).cps.toList = cs := by
  intro cs
  have h : ∀ l : List (List Nat), TL.joinL [] l = l.flatten := by
    intro l
    induction l with
    | nil => rfl
    | cons p r ih =>
      cases r with
      | nil => simp [TL.joinL]
      | cons q r => rw [TL.joinL, ih]; simp
  have e := TL.tl_join ("" : Str) (cs.map fun c => (⟨#[c]⟩ : Str))
  rw [TL.join_eq]
  refine e.trans ?_
  have e2 : TL.tl ("" : Str) = [] := by decide +kernel
  rw [e2, h, List.map_map]
  clear e
  induction cs with
  | nil => rfl
  | cons c r ih =>
    rw [List.map_cons, List.flatten_cons, ih]
    rfl
theorem c_word (F : At K mg "_law_word" s_law_word) (B : Bl mg) (c_law_take : Cal P w K mg base 1 "_law_take" spTake) (c_law_of : Cal P w K mg base 2 "_law_of" (spOf K)) : Cal P w K mg base 3 "_law_word" spWord := by
  refine cal_of F sc_law_word (fun vs H Q E h => ?_) (fun _ _ _ _ _ _ us hl => match us, hl with | [_, _], _ => rfl) (fun f cdv A outer s H vs Q E hr h => ?_)
  · obtain ⟨b, m, n, rfl, _⟩ := h
    rfl
  · obtain ⟨b, m, n, rfl, hb, hn, hm, k⟩ := h
    refine ⟨_, (pss_one (ps_ret (pe_joinA K pe_str (pe_lc (own := [("_law_turn", 2)]) rfl sc_law_word.nd (pi_range1 rfl B.range (pa_cons (pe_cA c_law_take hr (by omega) rfl (pa_cons (pv 0) (pa_cons (pe_op (op_addA K) (pv 1) pe_int) pa_nil))) pa_nil)) (blkOk_by (N := N_law_word) (sc := defScope s_law_word) (by decide +kernel)) (fun _ _ _ _ _ => (pg_name (i := 2) sc_law_word.nd rfl (Or.inl rfl))) (fun _ _ _ _ _ => pts_nil) (fun _ _ _ _ _ => (pe_cA c_law_of hr (by omega) rfl (pa_cons (pv 0) (pa_cons pe_str pa_nil)))))))), ?_⟩
    walk_at "rd"
    refine ⟨⟨_, rfl⟩, ?_⟩
    walk_at "rd"
    refine ⟨b, _, n, rfl, hb, by omega, by omega, by omega, fun d H1 hd0 hd1 hd => ?_⟩
    obtain ⟨j, rfl⟩ := Int.eq_ofNat_of_zero_le hd0
    refine ⟨_, rfl, by omega, by omega, fun D hD => ?_⟩
    have nDb : D ≠ b := by
      obtain ⟨l, h1, _⟩ := hd.bag
      exact (ne_of_none h1 hD).symm
    refine lc_range (lo := 0) (n := (j : Int).toNat) (fun i H' => ∃ cs : List Nat, cs.length = i ∧ (∀ c ∈ cs, 97 ≤ c ∧ c ≤ 122) ∧ H' D = some (.lst (cs.map fun c => V.str ⟨#[c]⟩)) ∧ Drw b (n + 1 + i) H1 H') ?_ ?_ ?_
    · exact ⟨[], rfl, fun _ h => by (cases h), upd_same, (hd.bag.new hD).1⟩
    · rintro i H' hi ⟨cs, hl, hc, h1, h2⟩
      walk_at "rd"
      refine ⟨rfl, ?_⟩
      walk_at "rd"
      refine ⟨b, _, n + 1 + i, rfl, h2.bag, by omega, .inr ⟨_, rfl, by decide +kernel, by decide +kernel, fun c hcm H2 hd2 => ?_⟩⟩
      have hD2 : H2 D = some (.lst (cs.map fun c => V.str ⟨#[c]⟩)) := hid_get (hd2.ex _ _ (hid_of h1 nDb))
      refine ⟨_, hD2, by rw [sizeLine_eq, List.length_map]; omega, cs ++ [c], by simp [hl], ?_, ?_, ?_⟩
      · intro x hx
        rcases List.mem_append.mp hx with hx | hx
        · exact hc x hx
        · rw [List.mem_singleton.mp hx]
          exact small_ok hcm
      · rw [upd_same, List.map_append]; rfl
      · exact (Drw.put (h2.trans hd2) (hid_none hD) nDb).mono (by omega)
    · rintro H' ⟨cs, hl, hc, h1, h2⟩
      have e1 : cs.map (fun c => V.str ⟨#[c]⟩) = (cs.map fun c => (⟨#[c]⟩ : Str)).map V.str := by rw [List.map_map]; rfl
      refine ⟨_, _, _, rfl, rfl, .inl (SqL.of (by rw [← e1]; exact h1)), ?_, ?_⟩
      · rw [List.map_map, List.length_map]
        have e2 : (cs.map ((fun (x : Str) => x.length) ∘ fun c => (⟨#[c]⟩ : Str))).sum = cs.length := by
          have : ∀ l : List Nat, (l.map ((fun (x : Str) => x.length) ∘ fun c => (⟨#[c]⟩ : Str))).sum = l.length := by
            intro l
            induction l with
            | nil => rfl
            | cons a r ih => rw [List.map_cons, List.sum_cons, ih, List.length_cons]; show 1 + r.length = _; omega
          exact this cs
        rw [e2]
        have e3 : ("" : Str).length = 0 := by decide +kernel
        rw [e3]
        omega
      · refine k _ _ ⟨?_, ?_⟩ ((hd.trans h2).mono (by omega))
        · have := congrArg List.length (tl_join0 cs)
          rw [show (Txt.join ("" : Str) (cs.map fun c => (⟨#[c]⟩ : Str))).length = (Txt.join ("" : Str) (cs.map fun c => (⟨#[c]⟩ : Str))).cps.toList.length from by simp [Str.length], this]
          omega
        · rw [tl_join0]
          exact hc
end

section
variable {P : Program} {w : World} {K : PySem.W.Frag} {mg : Str → Option Value} {base : Heap}
/-! a number -/
def spNumber : Sp := fun vs H Q _ => ∃ (b a : Addr) (n : Nat) (ns : List Int), vs = [.ref b, .ref a] ∧ Bag b n H ∧ n + 10 < 1000000000000 ∧ hid b H a = some (.lst (ns.map V.int)) ∧ ns.length ≤ 1000 ∧
  ∀ (r : Int) (H' : Hp), r.natAbs < 10 ^ 30 → Drw b (n + 10) H H' → Q (.int r) H'
abbrev N_law_number : List Str := ["_law_bag_here", "_law_near_here", "_law_way", "_law_top"]
theorem sc_law_number : FnScope N_law_number ["_law_bag_here", "_law_near_here"] (defScope s_law_number) := ⟨rfl, rfl, rfl, by decide +kernel, rfl, by decide +kernel, by decide +kernel⟩
theorem c_number (F : At K mg "_law_number" s_law_number) (B : Bl mg) (c_law_take : Cal P w K mg base 1 "_law_take" spTake) (c_law_of : Cal P w K mg base 2 "_law_of" (spOf K)) : Cal P w K mg base 3 "_law_number" spNumber := by
  refine cal_of F sc_law_number (fun vs H Q E h => ?_) (fun _ _ _ _ _ _ us hl => match us, hl with | [_, _], _ => rfl) (fun f cdv A outer s H vs Q E hr h => ?_)
  · obtain ⟨b, a, n, ns, rfl, _⟩ := h
    rfl
  · obtain ⟨b, a, n, ns, rfl, hb, hn, hna, hns, k⟩ := h
    refine ⟨_, (pss_cons (ps_par (i := 2) (j := 3) (by rfl) sc_law_number.nd rfl rfl (by decide) rfl rfl (pa_cons (pe_cA c_law_take hr (by omega) rfl (pa_cons (pv 0) (pa_cons pe_int pa_nil))) (pa_cons (pe_op op_sub (pe_op op_pow pe_int pe_int) pe_int) pa_nil)) (by rfl))
  (pss_cons (ps_if (pt_cmpR op_gtA (pv 2) pe_int (nomark _))
   (pss_one (ps_ret (pe_op op_sub (pe_cA c_law_take hr (by omega) rfl (pa_cons (pv 0) (pa_cons pe_int pa_nil))) pe_int)))
   pss_nil)
  (pss_cons (ps_if (pt_cmpR (op_eqA K hr.units) (pv 2) pe_int (nomark _))
   (pss_one (ps_ret (pe_op op_mulA (pe_op op_sub (pv 3) (pe_cA c_law_take hr (by omega) rfl (pa_cons (pv 0) (pa_cons (pe_op op_pow pe_int pe_int) pa_nil)))) (pe_op op_sub pe_int (pe_op op_mulA pe_int (pe_cA c_law_take hr (by omega) rfl (pa_cons (pv 0) (pa_cons pe_int pa_nil))))))))
   pss_nil)
  (pss_one (ps_ret (pe_callB (call_max2A rfl) rfl B.max (by decide +kernel) (pa_cons (pe_un un_neg (pv 3)) (pa_cons (pe_callB (call_min2A rfl) rfl B.min (by decide +kernel) (pa_cons (pv 3) (pa_cons (pe_op op_sub (pe_op (op_addA K) (pe_cA c_law_of hr (by omega) rfl (pa_cons (pv 0) (pa_cons (pe_op (op_addA K) (pv 1) (pe_lst (pa_cons pe_int pa_nil))) pa_nil))) (pe_cA c_law_take hr (by omega) rfl (pa_cons (pv 0) (pa_cons pe_int pa_nil)))) pe_int) pa_nil))) pa_nil)))))))), ?_⟩
    walk_at "rd"
    refine ⟨b, _, n, rfl, hb, by omega, by decide, by decide, fun d H1 hd0 hdl hd1 => ?_⟩
    walk_at "rx"
    refine iteD (fun h1 => ?_) (fun h1 => ?_)
    · walk_at "rd"
      refine ⟨b, _, n + 1, rfl, hd1.bag, by omega, by decide, by decide, fun d2 H2 hd20 hd2l hd2 => ?_⟩
      walk_at "rd"
      refine k _ _ ?_ ((hd1.trans hd2).mono (by omega))
      omega
    · walk_at "rd"
      refine iteD (fun h2 => ?_) (fun h2 => ?_)
      · walk_at "rx"
        refine ⟨b, _, n + 1, rfl, hd1.bag, by omega, by decide, by decide, fun d2 H2 hd20 hd2l hd2 => ?_⟩
        walk_at "rx"
        refine ⟨b, _, n + 2, rfl, hd2.bag, by omega, by decide, by decide, fun d3 H3 hd30 hd3l hd3 => ?_⟩
        walk_at "rx"
        have e10 : (10 : Int) ^ (30 : Int).toNat = 1000000000000000000000000000000 := by decide
        rw [e10] at hd2l
        refine k _ _ ?_ (((hd1.trans hd2).trans hd3).mono (by omega))
        rw [e10]
        obtain rfl | rfl : d3 = 0 ∨ d3 = 1 := by omega
        · omega
        · omega
      · walk_at "rd"
        have e10 : (10 : Int) ^ (30 : Int).toNat = 1000000000000000000000000000000 := by decide
        refine ⟨Nat.le_of_lt (by decide), fun p hp => ?_⟩
        have hd2 := hd1.bag.new (o := .lst [.int 0]) hp
        have hna2 := hd2.1.ex _ _ (hd1.ex _ _ hna)
        refine r_addL (hid_get hna2) (hid_get hd2.2) (by rw [sizeLine_eq, List.length_map]; show _ + 1 ≤ _; omega) (fun l hl => ?_)
        have hd3 := hd2.1.bag.new (o := .lst (ns.map V.int ++ [.int 0])) hl
        walk_at "rd"
        refine ⟨b, _, n + 1, rfl, hd3.1.bag, by omega, .inl ⟨l, _, rfl, .inl (SqL.of hd3.2), by simp, by rw [List.length_append, List.length_map]; show _ + 1 ≤ _; omega, fun y hy H2 hd4 => ?_⟩⟩
        obtain ⟨yi, rfl⟩ : ∃ yi, y = V.int yi := by
          rcases List.mem_append.mp hy with hy | hy
          · obtain ⟨yi, _, rfl⟩ := List.mem_map.mp hy
            exact ⟨yi, rfl⟩
          · exact ⟨0, List.mem_singleton.mp hy⟩
        walk_at "rd"
        refine ⟨b, _, n + 2, rfl, hd4.bag, by omega, by decide, by decide, fun d5 H5 hd50 hd5l hd5 => ?_⟩
        walk_at "rd"
        refine k _ _ ?_ (((((hd1.trans hd2.1).trans hd3.1).trans hd4).trans hd5).mono (by omega))
        rw [e10]
        split <;> split <;> omega
end

section
variable {P : Program} {w : World} {K : PySem.W.Frag} {mg : Str → Option Value} {base : Heap}
/-! a bag -/
def spBag (K : PySem.W.Frag) : Sp := fun vs H Q _ => ∃ (a : Addr) (ns : List Int) (i : Nat), vs = [.ref a, .int (i : Int)] ∧ SqL K H a (ns.map V.int) ∧ i < 64 ∧ ns.length ≤ 63 ∧
  ∀ (b : Addr) (l : List V), H b = none → BagL 0 l → Q (.ref b) (upd H b (.lst l))
abbrev N_law_bag : List Str := ["_law_script", "_law_at", "_law_cell"]
theorem sc_law_bag : FnScope N_law_bag ["_law_script", "_law_at"] (defScope s_law_bag) := ⟨rfl, rfl, rfl, by decide +kernel, rfl, by decide +kernel, by decide +kernel⟩
theorem c_bag (F : At K mg "_law_bag" s_law_bag) (B : Bl mg) : Cal P w K mg base 1 "_law_bag" (spBag K) := by
  refine cal_of F sc_law_bag (fun vs H Q E h => ?_) (fun _ _ _ _ _ _ us hl => match us, hl with | [_, _], _ => rfl) (fun f cdv A outer s H vs Q E hr h => ?_)
  · obtain ⟨a, ns, i, rfl, _⟩ := h
    rfl
  · obtain ⟨a, ns, i, rfl, hs, hi, hns, k⟩ := h
    refine ⟨_, (pss_cons (ps_set (i := 2) sc_law_bag.nd rfl (Or.inl rfl) (pe_ifExp (pt_cmpR op_ltA (pv 1) (pe_callB (call_lenA K) rfl B.len (by decide +kernel) (pa_cons (pv 0) pa_nil)) (nomark _)) (pe_ix (ix_A K) (pv 0) (pv 1) (fun _ _ => rfl)) pe_int))
  (pss_one (ps_ret (pe_lst (pa_cons (pe_ifExp (pt_cmpR op_geA (pe_callB call_absA rfl B.abs (by decide +kernel) (pa_cons (pv 2) pa_nil)) (pe_op op_pow pe_int pe_int) (nomark _)) (pe_callB call_absA rfl B.abs (by decide +kernel) (pa_cons (pv 2) pa_nil)) pe_int) (pa_cons (pe_op (op_addA K) (pe_op op_mod (pe_callTy call_intA rfl B.int (by decide +kernel) (pa_cons (pv 2) pa_nil)) pe_int) (pe_op op_mulA pe_int (pv 1))) (pa_cons pe_int pa_nil))))))), ?_⟩
    walk_at "rd"
    refine r_lenL hs ?_
    walk_at "rd"
    have key : ∀ c : Int, tRet (tLst (tCons (tIf (tTest (tOp rGeA (tCB rAbsA (tCons (tVar 2) tNil)) (tOp (rI CPow fun i j => .int (i ^ j.toNat)) (tC (.int 10)) (tC (.int 18))))) (tCB rAbsA (tCons (tVar 2) tNil)) (tC (.int 0)))
        (tCons (tOp (rAddA K) (tOp (rI (fun _ j => 0 < j) fun i j => .int (i % j)) (tCB rIntA (tCons (tVar 2) tNil)) (tC (.int 998244353))) (tOp rMulA (tC (.int 3000017)) (tVar 1))) (tCons (tC (.int 0)) tNil)))) { nx := fun _ H' => Q .non H', rt := Q } [some (.ref a), some (.int (i : Int)), some (.int c)] H := by
      intro c
      have hm1 : 0 ≤ c % 998244353 := Int.emod_nonneg _ (by decide)
      have hm2 : c % 998244353 < 998244353 := Int.emod_lt_of_pos _ (by decide)
      walk_at "rx"
      refine iteD (fun h1 => ?_) (fun h1 => ?_)
      · walk_at "rx"
        refine ⟨(by show 3 ≤ sizeLine; decide), fun p hp => k p _ hp ⟨_, _, _, rfl, by omega, by omega, by omega, by omega⟩⟩
      · walk_at "rx"
        refine ⟨(by show 3 ≤ sizeLine; decide), fun p hp => k p _ hp ⟨_, _, _, rfl, by omega, by omega, by omega, by omega⟩⟩
    refine iteD (fun h1 => ?_) (fun h1 => ?_)
    · have hi2 : i < ns.length := by
        rw [List.length_map] at h1
        omega
      walk_at "rd"
      refine r_ixL hs (atI_nat (by rw [List.getElem?_map, List.getElem?_eq_getElem hi2]; rfl)) ?_
      exact key _
    · refine r_c ?_
      exact key 0
end

abbrev N_law_any_constant : List Str := ["_law_bag_here", "_law_way"]
theorem sc_law_any_constant : FnScope N_law_any_constant ["_law_bag_here"] (defScope s_law_any_constant) := ⟨rfl, rfl, rfl, by decide +kernel, rfl, by decide +kernel, by decide +kernel⟩
def spConst : Sp := fun vs H Q _ => ∃ (b : Addr) (n : Nat), vs = [.ref b] ∧ Bag b n H ∧ n + 20 < 1000000000000 ∧ ∀ (v : V) (H' : Hp), Cst v → Drw b (n + 20) H H' → Q v H'
section
variable {P : Program} {w : World} {K : PySem.W.Frag} {mg : Str → Option Value} {base : Heap}
theorem c_any_constant (F : At K mg "_law_any_constant" s_law_any_constant) (B : Bl mg) (c_law_take : Cal P w K mg base 1 "_law_take" spTake) (c_law_of : Cal P w K mg base 2 "_law_of" (spOf K)) (c_law_word : Cal P w K mg base 3 "_law_word" spWord) (c_law_number : Cal P w K mg base 3 "_law_number" spNumber) : Cal P w K mg base 4 "_law_any_constant" spConst := by
  refine cal_of F sc_law_any_constant (fun vs H Q E h => ?_) (fun _ _ _ _ _ _ us hl => match us, hl with | [_], _ => rfl) (fun f cdv A outer s H vs Q E hr h => ?_)
  · obtain ⟨b, n, rfl, _⟩ := h
    rfl
  · obtain ⟨b, n, rfl, hb, hn, kk⟩ := h
    refine ⟨_, (pss_cons (ps_set (i := 1) sc_law_any_constant.nd rfl (Or.inl rfl) (pe_cA c_law_take hr (by omega) rfl (pa_cons (pv 0) (pa_cons pe_int pa_nil))))
  (pss_cons (ps_if (pt_cmpR (op_eqA K hr.units) (pv 1) pe_int (nomark _))
   (pss_one (ps_ret pe_non))
   pss_nil)
  (pss_cons (ps_if (pt_cmpR (op_eqA K hr.units) (pv 1) pe_int (nomark _))
   (pss_one (ps_ret (pe_cA c_law_of hr (by omega) rfl (pa_cons (pv 0) (pa_cons (pe_lst (pa_cons pe_int (pa_cons pe_int (pa_cons (pe_un un_neg pe_int) (pa_cons pe_int (pa_cons (pe_un un_neg pe_int) (pa_cons pe_int (pa_cons (pe_op op_sub (pe_op op_pow pe_int pe_int) pe_int) (pa_cons (pe_op op_sub pe_int (pe_op op_pow pe_int pe_int)) pa_nil))))))))) pa_nil)))))
   pss_nil)
  (pss_one (ps_ret (pe_ifExp (pt_cmpR op_ltA (pv 1) pe_int (nomark _)) (pe_cA c_law_number hr (by omega) rfl (pa_cons (pv 0) (pa_cons (pe_lst pa_nil) pa_nil))) (pe_cA c_law_word hr (by omega) rfl (pa_cons (pv 0) (pa_cons pe_int pa_nil))))))))), ?_⟩
    walk_at "rd"
    refine ⟨b, _, n, rfl, hb, by omega, by decide, by decide, fun way H1 hw0 hw1 r1 => ?_⟩
    walk_at "rd"
    refine iteD (fun h1 => ?_) (fun h1 => ?_)
    · walk_at "rd"
      exact kk _ _ trivial (r1.mono (by omega))
    · walk_at "rd"
      refine iteD (fun h2 => ?_) (fun h2 => ?_)
      · walk_at "rx"
        refine ⟨by show 8 ≤ sizeLine; decide, fun p hp => ?_⟩
        obtain ⟨r2, hp2⟩ := r1.bag.new (o := .lst [.int 0, .int 1, .int (-1), .int 9, .int (-9), .int 10, .int (10 ^ (30 : Int).toNat - 1), .int (1 - 10 ^ (30 : Int).toNat)]) hp
        walk_at "rd"
        refine ⟨b, _, n + 1, rfl, r2.bag, by omega, .inl ⟨p, _, rfl, .inl (SqL.of hp2), by simp, by simp, fun y hy H3 r3 => ?_⟩⟩
        refine kk _ _ ?_ (((r1.trans r2).trans r3).mono (by omega))
        simp only [List.mem_cons, List.not_mem_nil, or_false] at hy
        rcases hy with rfl | rfl | rfl | rfl | rfl | rfl | rfl | rfl
        all_goals (show Int.natAbs _ < _; decide)
      · walk_at "rd"
        refine iteD (fun h3 => ?_) (fun h3 => ?_)
        · walk_at "rd"
          refine ⟨Nat.zero_le _, fun p hp => ?_⟩
          obtain ⟨r2, hp2⟩ := r1.bag.new (o := .lst []) hp
          walk_at "rd"
          refine ⟨b, p, n + 1, [], rfl, r2.bag, by omega, hp2, by simp, fun i H3 hi r3 => ?_⟩
          exact kk _ _ hi (((r1.trans r2).trans r3).mono (by omega))
        · walk_at "rd"
          refine ⟨b, 8, n + 1, rfl, r1.bag, by omega, by omega, fun z H3 hz r3 => ?_⟩
          exact kk _ _ hz ((r1.trans r3).mono (by omega))
end

abbrev N_law_written : List Str := ["_law_value", "_law_one"]
theorem sc_law_written : FnScope N_law_written ["_law_value"] (defScope s_law_written) := ⟨rfl, rfl, rfl, by decide +kernel, rfl, by decide +kernel, by decide +kernel⟩
def spWritten : Sp := fun vs H Q _ => ∃ v, vs = [v] ∧ Cst v ∧ Q (.str (cstS v)) H
section
variable {P : Program} {w : World} {K : PySem.W.Frag} {mg : Str → Option Value} {base : Heap}
theorem quoteE2 : ("\"" : Str) = ⟨#[34]⟩ := by decide +kernel
theorem written_never (F : At K mg "_law_written" s_law_written) : Cal P w K mg base 1 "_law_written" (fun _ _ _ _ => False) :=
  cal_of F sc_law_written (fun vs H Q E h => h.elim) (fun _ _ _ _ _ _ us hl => match us, hl with | [_], _ => rfl) (fun f cdv A outer s H vs Q E hr h => h.elim)
theorem c_written_ (F : At K mg "_law_written" s_law_written) (B : Bl mg) (c_law_written : Cal P w K mg base 1 "_law_written" (fun _ _ _ _ => False)) : Cal P w K mg base 2 "_law_written" spWritten := by
  refine cal_of F sc_law_written (fun vs H Q E h => ?_) (fun _ _ _ _ _ _ us hl => match us, hl with | [_], _ => rfl) (fun f cdv A outer s H vs Q E hr h => ?_)
  · obtain ⟨v, rfl, _⟩ := h
    rfl
  · obtain ⟨v, rfl, hv, k⟩ := h
    refine ⟨_, (pss_cons (ps_if (pt_val (pe_callB (call_isinstanceA K) rfl B.isinstance (by decide +kernel) (pa_cons (pv 0) (pa_cons (pe_bltn (v := .ty "tuple") rfl B.tuple (by decide +kernel) rfl) pa_nil))))
   (pss_one (ps_ret (pe_op (op_addA K) (pe_op (op_addA K) pe_str (pe_joinA K pe_str (pe_lc (own := [("_law_one", 1)]) rfl sc_law_written.nd (pi_any K (pv 0)) (blkOk_by (N := N_law_written) (sc := defScope s_law_written) (by decide +kernel)) (fun _ _ _ _ _ => (pg_name (i := 1) sc_law_written.nd rfl (Or.inl rfl))) (fun _ _ _ _ _ => pts_nil) (fun _ _ _ _ _ => (pe_cA c_law_written hr (by omega) rfl (pa_cons (pv 1) pa_nil)))))) pe_str)))
   pss_nil)
  (pss_cons (ps_if (pt_cmpR op_isA (pv 0) pe_non (nomark _))
   (pss_one (ps_ret pe_str))
   pss_nil)
  (pss_one (ps_ret (pe_ifExp (pt_val (pe_callB (call_isinstanceA K) rfl B.isinstance (by decide +kernel) (pa_cons (pv 0) (pa_cons (pe_bltn (v := .ty "str") rfl B.str (by decide +kernel) rfl) pa_nil)))) (pe_op (op_addA K) (pe_op (op_addA K) pe_str (pv 0)) pe_str) (pe_callTy call_strA rfl B.str (by decide +kernel) (pa_cons (pv 0) pa_nil))))))), ?_⟩
    cases v with
    | non => walk_at "rx"; exact k
    | int i =>
      have hv : i.natAbs < 10 ^ 30 := hv
      walk_at "rx"
      refine r_str (Nat.lt_trans hv (by decide)) ?_
      exact k
    | str z =>
      have hv : Word 8 z := hv
      have h1 := hv.1
      walk_at "rx"
      rw [quoteE2]
      refine r_addS (by rw [sizeLine_eq]; show 1 + z.length ≤ _; omega) ?_
      walk_at "rx"
      refine r_addS ?_ ?_
      · rw [sizeLine_eq, ← tl_length, tl_app, List.length_append, tl_length]
        show 1 + z.length + 1 ≤ _
        omega
      · exact k
    | _ => exact hv.elim
end

abbrev N_law_call_text : List Str := ["_law_name_here", "_law_values", "_law_value"]
theorem sc_law_call_text : FnScope N_law_call_text ["_law_name_here", "_law_values"] (defScope s_law_call_text) := ⟨rfl, rfl, rfl, by decide +kernel, rfl, by decide +kernel, by decide +kernel⟩
def spCText (K : PySem.W.Frag) : Sp := fun vs H Q _ => ∃ (name : Str) (a : Addr) (xs : List V), vs = [.str name, .ref a] ∧ name.length ≤ 1000 ∧ SqL K H a xs ∧ (∀ v ∈ xs, Cst v) ∧ xs.length ≤ 1000 ∧
  ∀ (z : Str) (H' : Hp), tl z = tl name ++ 40 :: (TL.joinL sep (xs.map cstL) ++ [41]) → Evl.Ex H H' → Q (.str z) H'
section
variable {P : Program} {w : World} {K : PySem.W.Frag} {mg : Str → Option Value} {base : Heap}
def wV (v : V) : V := .str (cstS v)
theorem sepE : TL.tl (", " : Str) = sep := by decide +kernel
theorem sum_le {m : Nat} : ∀ {xs : List V}, (∀ v ∈ xs, Cst v) → ((xs.map fun v => cstS v).map (·.length)).sum ≤ xs.length * 40
  | [], _ => by simp
  | v :: r, h => by
    have h1 := cst_len (h v (List.mem_cons_self ..))
    unfold cstL at h1
    rw [tl_length] at h1
    have h2 := sum_le (m := m) (xs := r) fun u hu => h u (List.mem_cons_of_mem _ hu)
    rw [List.map_cons, List.map_cons, List.sum_cons, List.length_cons]
    omega
theorem c_call_text_ (F : At K mg "_law_call_text" s_law_call_text) (B : Bl mg) (c_law_written : Cal P w K mg base 2 "_law_written" spWritten) : Cal P w K mg base 3 "_law_call_text" (spCText K) := by
  refine cal_of F sc_law_call_text (fun vs H Q E h => ?_) (fun _ _ _ _ _ _ us hl => match us, hl with | [_, _], _ => rfl) (fun f cdv A outer s H vs Q E hr h => ?_)
  · obtain ⟨n, a, xs, rfl, _⟩ := h
    rfl
  · obtain ⟨n, a, xs, rfl, hn, hs, hc, hl, k⟩ := h
    refine ⟨_, (pss_one (ps_ret (pe_op (op_addA K) (pe_op (op_addA K) (pe_op (op_addA K) (pv 0) pe_str) (pe_joinA K pe_str (pe_lc (own := [("_law_value", 2)]) rfl sc_law_call_text.nd (pi_any K (pv 1)) (blkOk_by (N := N_law_call_text) (sc := defScope s_law_call_text) (by decide +kernel)) (fun _ _ _ _ _ => (pg_name (i := 2) sc_law_call_text.nd rfl (Or.inl rfl))) (fun _ _ _ _ _ => pts_nil) (fun _ _ _ _ _ => (pe_cA c_law_written hr (by omega) rfl (pa_cons (pv 2) pa_nil)))))) pe_str))), ?_⟩
    walk_at "rx"
    refine r_addS (by rw [sizeLine_eq]; show n.length + 1 ≤ _; omega) ?_
    walk_at "rx"
    refine ⟨⟨_, rfl⟩, ?_⟩
    walk_at "rx"
    refine .inl ⟨a, rfl, ⟨_, hs⟩, ?_⟩
    intro D hD
    refine lc_seq (K := K) (a := a) hD wV hs ?_ ?_ ?_ ?_
    · exact fun _ => rfl
    · omega
    · intro v hv H' e1 Q' q
      walk_at "rd"
      exact ⟨v, rfl, hc v hv, q _ (Evl.Ex.refl _)⟩
    · intro H1 e1 hD2
      have hsum := sum_le (m := 0) hc
      have hcl : (", " : Str).length = 2 := by decide +kernel
      refine ⟨_, D, xs.map cstS, rfl, rfl, .inl (SqL.of (by rw [hD2, List.map_map]; rfl)), ?_, ?_⟩
      · rw [List.length_map, hcl]
        have : ((xs.map cstS).map (·.length)).sum ≤ xs.length * 40 := hsum
        omega
      · have ej : tl (Txt.join (", " : Str) (xs.map cstS)) = TL.joinL sep (xs.map cstL) := by
          rw [TL.join_eq]
          refine (TL.tl_join _ _).trans ?_
          rw [sepE, List.map_map]
          rfl
        have hjl : (Txt.join (", " : Str) (xs.map cstS)).length ≤ xs.length * 42 := by
          rw [← tl_length, ej]
          have := join_len (m := 40) (parts := xs.map cstL) fun p hp => by
            obtain ⟨v, hv, rfl⟩ := List.mem_map.mp hp
            exact cst_len (hc v hv)
          rw [List.length_map] at this
          exact this
        have hp1 : (n ++ ("(" : Str)).length = n.length + 1 := by
          rw [← tl_length, tl_app, List.length_append, tl_length]
          rfl
        refine r_addS (by rw [sizeLine_eq, hp1]; omega) ?_
        walk_at "rx"
        refine r_addS ?_ ?_
        · rw [sizeLine_eq, ← tl_length, tl_app, List.length_append, tl_length, tl_length, hp1]
          show _ + 1 ≤ _
          omega
        · refine k _ _ ?_ e1
          rw [tl_app, tl_app, tl_app, ej]
          rw [show tl ("(" : Str) = [40] by decide +kernel, show tl (")" : Str) = [41] by decide +kernel]
          simp
end

abbrev N_law_keywords : List Str := []
theorem sc_law_keywords : FnScope N_law_keywords [] (defScope s_law_keywords) := ⟨rfl, rfl, rfl, by decide +kernel, rfl, by decide +kernel, by decide +kernel⟩
def spKw : Sp := fun vs H Q _ => vs = [] ∧ ∀ p, H p = none → Q (.ref p) (upd H p (.lst (kwS.map V.str)))
section
variable {P : Program} {w : World} {K : PySem.W.Frag} {mg : Str → Option Value} {base : Heap}
theorem c_keywords (F : At K mg "_law_keywords" s_law_keywords) (B : Bl mg) : Cal P w K mg base 1 "_law_keywords" spKw := by
  refine cal_of F sc_law_keywords (fun vs H Q E h => ?_) (fun _ _ _ _ _ _ us hl => match us, hl with | [], _ => rfl) (fun f cdv A outer s H vs Q E hr h => ?_)
  · rw [h.1]; rfl
  · obtain ⟨rfl, k⟩ := h
    refine ⟨_, (pss_one (ps_ret (pe_lst (pa_cons pe_str (pa_cons pe_str (pa_cons pe_str (pa_cons pe_str (pa_cons pe_str (pa_cons pe_str (pa_cons pe_str (pa_cons pe_str (pa_cons pe_str (pa_cons pe_str (pa_cons pe_str (pa_cons pe_str (pa_cons pe_str (pa_cons pe_str (pa_cons pe_str (pa_cons pe_str (pa_cons pe_str (pa_cons pe_str (pa_cons pe_str (pa_cons pe_str (pa_cons pe_str (pa_cons pe_str (pa_cons pe_str (pa_cons pe_str (pa_cons pe_str (pa_cons pe_str (pa_cons pe_str (pa_cons pe_str (pa_cons pe_str (pa_cons pe_str (pa_cons pe_str (pa_cons pe_str (pa_cons pe_str (pa_cons pe_str pa_nil))))))))))))))))))))))))))))))))))))), ?_⟩
    walk_at "rd"
    exact ⟨by show 34 ≤ sizeLine; decide, k⟩
end

abbrev N_law_any_name : List Str := ["_law_bag_here", "_law_letters", "_law_found", "_law_turn"]
theorem sc_law_any_name : FnScope N_law_any_name ["_law_bag_here"] (defScope s_law_any_name) := ⟨rfl, rfl, rfl, by decide +kernel, rfl, by decide +kernel, by decide +kernel⟩
def spAName : Sp := fun vs H Q _ => ∃ (b : Addr) (n : Nat), vs = [.ref b] ∧ Bag b n H ∧ n + 20 < 1000000000000 ∧ ∀ (z : Str) (H' : Hp), isNameL (tl z) = true → Drw b (n + 20) H H' → Q (.str z) H'
section
variable {P : Program} {w : World} {K : PySem.W.Frag} {mg : Str → Option Value} {base : Heap}
theorem any_flat2 (l : List Str) : (l.map V.str).all flatV = true := by
  rw [List.all_eq_true]
  intro v hv
  obtain ⟨z, _, rfl⟩ := List.mem_map.mp hv
  rfl
theorem in_strs2 (z : Str) : ∀ l : List Str, inV (.str z) (l.map V.str) = l.any fun k => decide (tl k = tl z)
  | [] => rfl
  | k :: r => by
    have h := in_strs2 z r
    unfold inV at h ⊢
    rw [List.map_cons, List.any_cons, List.any_cons, h]
    congr 1
    show eqV (.str k) (.str z) = _
    unfold eqV
    first
      | exact decide_eq_decide.mpr (by rw [tl_inj])
      | (by_cases e : k = z
         · subst e; simp
         · have : ¬ tl k = tl z := fun q => e (tl_ext q)
           simp [e, this])
theorem kw_q : kwS.all (fun k => isNameL (113 :: tl k)) = true := by decide +kernel
theorem c_any_name (F : At K mg "_law_any_name" s_law_any_name) (B : Bl mg) (c_law_take : Cal P w K mg base 1 "_law_take" spTake) (c_law_of : Cal P w K mg base 2 "_law_of" (spOf K)) (c_law_keywords : Cal P w K mg base 1 "_law_keywords" spKw) : Cal P w K mg base 3 "_law_any_name" spAName := by
  refine cal_of F sc_law_any_name (fun vs H Q E h => ?_) (fun _ _ _ _ _ _ us hl => match us, hl with | [_], _ => rfl) (fun f cdv A outer s H vs Q E hr h => ?_)
  · obtain ⟨b, n, rfl, _⟩ := h
    rfl
  · obtain ⟨b, n, rfl, hb, hn, k⟩ := h
    refine ⟨_, (pss_cons (ps_set (i := 1) sc_law_any_name.nd rfl (Or.inl rfl) pe_str)
  (pss_cons (ps_set (i := 2) sc_law_any_name.nd rfl (Or.inl rfl) (pe_cA c_law_of hr (by omega) rfl (pa_cons (pv 0) (pa_cons (pv 1) pa_nil))))
  (pss_cons (ps_for PassesOwn.never rfl (pi_range1 rfl B.range (pa_cons (pe_cA c_law_take hr (by omega) rfl (pa_cons (pv 0) (pa_cons pe_int pa_nil))) pa_nil)) (pg_name (i := 3) sc_law_any_name.nd rfl (Or.inl rfl))
   (pss_one (ps_set (i := 2) sc_law_any_name.nd rfl (Or.inl rfl) (pe_op (op_addA K) (pv 2) (pe_cA c_law_of hr (by omega) rfl (pa_cons (pv 0) (pa_cons (pv 1) pa_nil)))))))
  (pss_cons (ps_if (pt_cmpR (op_inA K) (pv 2) (pe_cA0 c_law_keywords hr (by omega) rfl) (by rfl))
   (pss_one (ps_set (i := 2) sc_law_any_name.nd rfl (Or.inl rfl) (pe_op (op_addA K) pe_str (pv 2))))
   pss_nil)
  (pss_one (ps_ret (pv 2))))))), ?_⟩
    walk_at "rd"
    refine ⟨b, _, n, rfl, hb, by omega, .inr ⟨_, rfl, by decide +kernel, by decide +kernel, fun c0 hc0 H1 hd1 => ?_⟩⟩
    replace hc0 := small_ok hc0
    walk_at "rd"
    refine ⟨b, _, n + 1, rfl, hd1.bag, by omega, by decide, by decide, fun d H2 hd0 hdl hd2 => ?_⟩
    refine ⟨_, rfl, by omega, by omega, for_range (lo := 0) (n := d.toNat) (fun i σ H' => ∃ (z : Str) (u : Option V), σ = [some (.ref b), some (.str "abcdefghijklmnopqrstuvwxyz"), some (.str z), u] ∧ z.length = i + 1 ∧ (∀ x ∈ tl z, 97 ≤ x ∧ x ≤ 122) ∧ Drw b (n + 2 + i) H H') ?_ ?_ ?_⟩
    · exact ⟨⟨#[c0]⟩, none, rfl, rfl, fun x hx => by rw [show x = c0 from List.mem_singleton.mp hx]; exact hc0, hd1.trans hd2⟩
    · rintro i σ H' hi ⟨z, u, rfl, hz, hlet, hd⟩
      walk_at "rd"
      refine ⟨b, _, n + 2 + i, rfl, hd.bag, by omega, .inr ⟨_, rfl, by decide +kernel, by decide +kernel, fun c hc H3 hd3 => ?_⟩⟩
      refine r_addS (by rw [sizeLine_eq, hz]; show i + 1 + 1 ≤ _; omega) ?_
      refine ⟨_, _, rfl, ?_, ?_, (hd.trans hd3).mono (by omega)⟩
      · rw [← tl_length, tl_app, List.length_append, tl_length, hz]; rfl
      · intro x hx
        rw [tl_app] at hx
        rcases List.mem_append.mp hx with hx | hx
        · exact hlet x hx
        · rw [show x = c from List.mem_singleton.mp hx]
          exact small_ok hc
    · rintro σ H' ⟨z, u, rfl, hz, hlet, hd⟩
      walk_at "rd"
      refine ⟨rfl, fun p hp => ?_⟩
      have r3 := (hd.bag.new (o := .lst (kwS.map V.str)) hp).1
      refine .inr ⟨p, _, rfl, .inl (SqL.of upd_same), rfl, any_flat2 kwS, ?_⟩
      rw [if_neg Bool.false_ne_true, in_strs2]
      walk_at "rd"
      refine iteB (fun h1 => ?_) (fun h1 => ?_)
      · walk_at "rd"
        refine r_addS (by rw [sizeLine_eq]; show 1 + z.length ≤ _; omega) ?_
        walk_at "rd"
        refine k _ _ ?_ ((hd.trans r3).mono (by omega))
        obtain ⟨kw, hk1, hk2⟩ := List.any_eq_true.mp h1
        rw [tl_app, ← of_decide_eq_true hk2, show tl ("q" : Str) = [113] by decide +kernel]
        exact List.all_eq_true.mp kw_q kw hk1
      · walk_at "rd"
        refine k _ _ ?_ ((hd.trans r3).mono (by omega))
        unfold isNameL isWordL
        rw [h1, decide_eq_true (show (tl z).length ≤ 12 by rw [tl_length]; omega), decide_eq_true (show tl z ≠ [] from fun e => by have := tl_length z; rw [e] at this; simp at this; omega), Bool.true_and]
        rw [show (tl z).all (fun c => decide (c ∈ smallL)) = true from List.all_eq_true.mpr fun c hc => decide_eq_true (small_mem.mpr (hlet c hc))]
        rfl
end

abbrev N_law_any_call : List Str := ["_law_bag_here", "_law_some", "_law_turn"]
theorem sc_law_any_call : FnScope N_law_any_call ["_law_bag_here"] (defScope s_law_any_call) := ⟨rfl, rfl, rfl, by decide +kernel, rfl, by decide +kernel, by decide +kernel⟩
def spACall : Sp := fun vs H Q _ => ∃ (b : Addr) (n : Nat), vs = [.ref b] ∧ Bag b n H ∧ n + 150 < 1000000000000 ∧ ∀ (z : Str) (H' : Hp), CallOk z → Drw b (n + 150) H H' → Q (.str z) H'
section
variable {P : Program} {w : World} {K : PySem.W.Frag} {mg : Str → Option Value} {base : Heap}
theorem c_any_call (F : At K mg "_law_any_call" s_law_any_call) (B : Bl mg) (c_law_take : Cal P w K mg base 1 "_law_take" spTake) (c_law_any_constant : Cal P w K mg base 4 "_law_any_constant" spConst) (c_law_any_name : Cal P w K mg base 3 "_law_any_name" spAName) (c_law_call_text : Cal P w K mg base 3 "_law_call_text" (spCText K)) : Cal P w K mg base 5 "_law_any_call" spACall := by
  refine cal_of F sc_law_any_call (fun vs H Q E h => ?_) (fun _ _ _ _ _ _ us hl => match us, hl with | [_], _ => rfl) (fun f cdv A outer s H vs Q E hr h => ?_)
  · obtain ⟨b, n, rfl, _⟩ := h
    rfl
  · obtain ⟨b, n, rfl, hb, hn, k⟩ := h
    refine ⟨_, (pss_cons (ps_setLc (i := 1) (own := [("_law_turn", 2)]) rfl sc_law_any_call.nd rfl rfl (sw_true rfl rfl rfl (by decide +kernel)) (pi_range1 rfl B.range (pa_cons (pe_cA c_law_take hr (by omega) rfl (pa_cons (pv 0) (pa_cons pe_int pa_nil))) pa_nil)) (blkOk_by (N := N_law_any_call) (sc := defScope s_law_any_call) (by decide +kernel)) (fun _ _ _ _ _ => (pg_name (i := 2) sc_law_any_call.nd rfl (Or.inl rfl))) (fun _ _ _ _ _ => pts_nil) (fun _ _ _ _ _ => (pe_cA c_law_any_constant hr (by omega) rfl (pa_cons (pv 0) pa_nil))))
  (pss_one (ps_ret (pe_cA c_law_call_text hr (by omega) rfl (pa_cons (pe_cA c_law_any_name hr (by omega) rfl (pa_cons (pv 0) pa_nil)) (pa_cons (pv 1) pa_nil)))))), ?_⟩
    walk_at "rd"
    refine ⟨b, _, n, rfl, hb, by omega, by decide, by decide, fun m0 H1 hm0 hm1 r1 => ?_⟩
    obtain ⟨m, rfl⟩ := Int.eq_ofNat_of_zero_le hm0
    refine ⟨_, rfl, by omega, by omega, fun L hL => ?_⟩
    refine lc_draw (m := (m : Int).toNat) (c := 20) hL r1.bag (by omega) (fun _ v => Cst v) (fun _ _ _ _ h => h) ?_ ?_ ?_
    · exact fun _ => rfl
    · intro i H' hi r2 Q' q
      walk_at "rd"
      exact ⟨b, _, rfl, r2.bag, by omega, fun v H'' hv r3 => q v H'' hv r3⟩
    · intro H2 xs hxl hI hL2 nLb r2
      replace r2 := r1.trans r2
      walk_at "rd"
      refine ⟨b, _, rfl, r2.bag, by omega, fun z H3 hz r3 => ?_⟩
      have hL3 := r3.ex _ _ (hid_of hL2 nLb)
      replace r3 := r2.trans r3
      walk_at "rd"
      obtain ⟨n1, n2, n3⟩ := name_small hz
      rw [tl_length] at n2
      refine ⟨z, L, xs, rfl, by omega, SqL.of (hid_get hL3), hI, by omega, fun t H4 ht e4 => ?_⟩
      exact k _ _ ⟨tl z, xs, hz, hI, by omega, ht⟩ ((r3.trans (r3.bag.ex e4)).mono (by omega))
end

end WP

set_option Elab.async false
set_option linter.all false
set_option maxRecDepth 100000
set_option maxHeartbeats 4000000
namespace WP
open PySem PySem.Spec PyProof.Rows L2
local macro_rules | `(tactic| walk_at "rd") => `(tactic| repeat (first
  | with_reducible refine r_seq ?_ | with_reducible refine r_fld ?_ | with_reducible refine r_fldS ?_ | with_reducible refine r_meth ?_ | with_reducible refine r_methX ?_ | with_reducible refine r_make ?_ | with_reducible refine r_makeS ?_ | with_reducible refine r_makeKS ?_ | with_reducible refine r_dcA ?_ | with_reducible refine r_addOS ?_ | with_reducible refine r_dgetT ?_ | with_reducible refine r_dputT ?_ | with_reducible refine r_dget2T ?_ | with_reducible refine r_starT ?_ | with_reducible refine r_statT ?_ | with_reducible refine r_par3 ?_ | with_reducible refine r_callR ?_ | with_reducible refine r_callS ?_ | with_reducible refine r_mkO ?_ | with_reducible refine r_raise ?_ | with_reducible refine r_callW ?_ | with_reducible refine r_tru ?_ | with_reducible refine r_var rfl ?_ | with_reducible refine r_c ?_ | with_reducible refine r_op ?_ | with_reducible refine r_cons ?_ | with_reducible refine r_nil ?_
  | with_reducible refine r_cb ?_ | with_reducible refine r_call ?_ | with_reducible refine r_test ?_ | with_reducible refine r_B ?_ | with_reducible refine r_bl ?_ | with_reducible refine r_asg ?_ | with_reducible refine r_asgS ?_
  | with_reducible refine r_ret ?_ | with_reducible refine r_drop ?_ | with_reducible refine r_ifS ?_ | with_reducible refine r_if ?_ | with_reducible refine r_and ?_ | with_reducible refine r_or ?_ | with_reducible refine r_not ?_
  | with_reducible refine r_andV ?_ | with_reducible refine r_orV ?_ | with_reducible refine r_notV ?_ | with_reducible refine r_chain ?_ | with_reducible refine r_sl ?_ | with_reducible refine r_nopart ?_ | with_reducible refine r_part ?_ | with_reducible refine r_partN ?_ | with_reducible refine r_xv ?_ | with_reducible refine r_xo ?_ | with_reducible refine r_mkV ?_ | with_reducible refine r_forG ?_ | with_reducible refine r_listG ?_ | with_reducible refine r_methG ?_
  | with_reducible refine r_intO ?_ | with_reducible refine r_two ?_ | with_reducible refine r_m1 ?_ | with_reducible refine r_bm ?_ | with_reducible refine r_next ?_ | with_reducible refine r_gCons ?_ | with_reducible refine r_gNil ?_ | with_reducible refine r_asgT ?_ | with_reducible refine r_for ?_ | with_reducible refine r_rng1 ?_ | with_reducible refine r_iList ?_ | with_reducible refine r_iAny ?_ | with_reducible refine r_lc ?_ | with_reducible refine r_yes ?_ | with_reducible refine r_gN ?_ | with_reducible refine r_par ?_ | with_reducible refine r_un ?_ | with_reducible refine r_brk ?_ | with_reducible refine r_cont ?_
  | with_reducible refine r_I0 ?_ | with_reducible refine r_U ?_ | with_reducible refine r_addI ?_ | with_reducible refine r_abs ?_ | with_reducible refine r_intI ?_ | with_reducible refine r_max2 ?_ | with_reducible refine r_min2 ?_
  | with_reducible refine r_ltI ?_ | with_reducible refine r_leI ?_ | with_reducible refine r_gtI ?_ | with_reducible refine r_geI ?_ | with_reducible refine r_isN_non ?_ | with_reducible refine r_isN_int ?_ | with_reducible refine r_isN_str ?_ | with_reducible refine r_isN_bl ?_ | with_reducible refine r_isN_ref ?_ | with_reducible refine r_isN ?_ | with_reducible refine r_isB ?_ | with_reducible refine r_isnotN_non ?_ | with_reducible refine r_isnotN_int ?_ | with_reducible refine r_isnotN_str ?_ | with_reducible refine r_isnotN_bl ?_ | with_reducible refine r_isnotN_ref ?_ | with_reducible refine r_isnotN ?_ | with_reducible refine r_isnotB ?_
  | with_reducible refine r_inS ?_ | with_reducible refine r_eqS rfl ?_ | with_reducible refine r_neS rfl ?_ | with_reducible refine r_lst ?_ | with_reducible refine r_tup ?_ | with_reducible refine iteT ?_ | with_reducible refine iteF ?_))
local macro_rules | `(tactic| walk_at "isi") => `(tactic| (first
  | with_reducible refine r_isi_non_int ?_
  | with_reducible refine r_isi_non_str ?_
  | with_reducible refine r_isi_non_list ?_
  | with_reducible refine r_isi_non_tuple ?_
  | with_reducible refine r_isi_non_bool ?_
  | with_reducible refine r_isi_bl_int ?_
  | with_reducible refine r_isi_bl_str ?_
  | with_reducible refine r_isi_bl_list ?_
  | with_reducible refine r_isi_bl_tuple ?_
  | with_reducible refine r_isi_bl_bool ?_
  | with_reducible refine r_isi_int_int ?_
  | with_reducible refine r_isi_int_str ?_
  | with_reducible refine r_isi_int_list ?_
  | with_reducible refine r_isi_int_tuple ?_
  | with_reducible refine r_isi_int_bool ?_
  | with_reducible refine r_isi_str_int ?_
  | with_reducible refine r_isi_str_str ?_
  | with_reducible refine r_isi_str_list ?_
  | with_reducible refine r_isi_str_tuple ?_
  | with_reducible refine r_isi_str_bool ?_
  | with_reducible refine r_isi_lst_int (SqL.of (by assumption)) ?_
  | with_reducible refine r_isi_lst_str (SqL.of (by assumption)) ?_
  | with_reducible refine r_isi_lst_list (SqL.of (by assumption)) ?_
  | with_reducible refine r_isi_lst_tuple (SqL.of (by assumption)) ?_
  | with_reducible refine r_isi_lst_bool (SqL.of (by assumption)) ?_
  | with_reducible refine r_isi_tup_int (SqT.of (by assumption)) ?_
  | with_reducible refine r_isi_tup_str (SqT.of (by assumption)) ?_
  | with_reducible refine r_isi_tup_list (SqT.of (by assumption)) ?_
  | with_reducible refine r_isi_tup_tuple (SqT.of (by assumption)) ?_
  | with_reducible refine r_isi_tup_bool (SqT.of (by assumption)) ?_))
local macro_rules | `(tactic| walk_at "rs") => `(tactic| (first
  | ((with_reducible refine iteTc ?hc ?_); (case hc => rfl)) | ((with_reducible refine iteFc ?hc ?_); (case hc => rfl))
  | walk_at "isi"
  | refine r_ixL (SqL.of (by assumption)) rfl ?_ | refine r_ixL (SqL.of upd_same) rfl ?_
  | refine r_I (C := fun _ j => 0 < j) (by first | decide | assumption | omega) ?_
  | refine r_mulI (.inl ⟨by decide, by decide⟩) ?_ | refine r_mulI (.inr ⟨by decide, by decide⟩) ?_ | refine r_mulI (.inr ⟨by omega, by omega⟩) ?_ | refine r_mulI (.inl ⟨by omega, by omega⟩) ?_
  | refine r_I (wide_div (b := 64) (by decide) (by decide) (by decide) (by decide)) ?_
  | refine r_I (C := CPow) ⟨by decide, by decide, by decide⟩ ?_
  | refine r_setL (by assumption) rfl ?_ | refine r_setL upd_same rfl ?_))
local macro_rules | `(tactic| walk_at "rx") => `(tactic| (walk_at "rd"; (repeat (walk_at "rs"; walk_at "rd"))))

abbrev N_weight : List Str := ["answer"]
theorem sc_weight : FnScope N_weight ["answer"] (defScope s_weight) := ⟨rfl, rfl, rfl, by decide +kernel, rfl, by decide +kernel, by decide +kernel⟩
def wtD : PyData → Nat
  | .none => 0
  | .list ds => 1 + ds.length
  | _ => 1
def spWt (K : PySem.W.Frag) : Sp := fun vs H Q _ => ∃ (v : V) (d : PyData), vs = [v] ∧ Dp K H v d ∧ ∀ H', Evl.Ex H H' → Q (.int (wtD d : Nat)) H'
section
variable {P : Program} {w : World} {K : PySem.W.Frag} {mg : Str → Option Value} {base : Heap}
theorem c_weight {x : Str} (F : ∃ (f : Addr) (fd : FuncData), FunD K "weight" "weight" (defArgs s_weight) (defBody s_weight) (defScope s_weight) [] [] f fd ∧ mg x = some (.ref f)) (B : Bl mg) : Cal P w K mg base 1 x (spWt K) := by
  obtain ⟨f, fd, F, m⟩ := F
  refine ⟨f, fd, ["answer"], fnok_of F sc_weight (fun vs H Q E h => ?_) (fun cdv A outer s H vs Q E hr h => ?_), m, F.kp, F.bindsN (fun _ _ _ _ _ _ us hl => match us, hl with | [_], _ => rfl)⟩
  · obtain ⟨v, d, rfl, _⟩ := h
    rfl
  · obtain ⟨v, d, rfl, hd, k⟩ := h
    refine ⟨_, (pss_cons (ps_if (pt_cmpR op_isA (pv 0) pe_non (nomark _))
   (pss_one (ps_ret pe_int))
   pss_nil)
  (pss_one (ps_ret (pe_ifExp (pt_val (pe_callB (call_isinstanceA K) rfl B.isinstance (by decide +kernel) (pa_cons (pv 0) (pa_cons (pe_bltn (v := .ty "list") rfl B.list (by decide +kernel) rfl) pa_nil)))) (pe_op (op_addA K) pe_int (pe_callB (call_lenA K) rfl B.len (by decide +kernel) (pa_cons (pv 0) pa_nil))) pe_int)))), ?_⟩
    cases hd with
    | @lst a xs ds s r =>
      walk_at "rd"
      refine r_isi_lst_list s ?_
      walk_at "rd"
      refine r_lenL s ?_
      walk_at "rd"
      have e : (1 : Int) + (xs.length : Nat) = ((wtD (.list ds) : Nat) : Int) := by
        rw [DpAll.length r]
        show (1 : Int) + (ds.length : Nat) = ((1 + ds.length : Nat) : Int)
        omega
      rw [e]
      exact k _ (Evl.Ex.refl _)
    | tup s r =>
      walk_at "rd"
      refine r_isi_tup_list s ?_
      walk_at "rx"
      exact k _ (Evl.Ex.refl _)
    | non => walk_at "rx"; exact k _ (Evl.Ex.refl _)
    | bl b => walk_at "rx"; exact k _ (Evl.Ex.refl _)
    | int i => walk_at "rx"; exact k _ (Evl.Ex.refl _)
    | str z => walk_at "rx"; exact k _ (Evl.Ex.refl _)
end

abbrev N_copy_of : List Str := ["answer"]
theorem sc_copy_of : FnScope N_copy_of ["answer"] (defScope s_copy_of) := ⟨rfl, rfl, rfl, by decide +kernel, rfl, by decide +kernel, by decide +kernel⟩
def spCopy (K : PySem.W.Frag) : Sp := fun vs H Q _ => ∃ (v : V) (d : PyData), vs = [v] ∧ Dp K H v d ∧ isAnswerD d = true ∧ ∀ (v' : V) (H' : Hp), Evl.Ex H H' → Dp K (imm H H') v' d → ((∀ ds, d ≠ .list ds) ∨ ∃ (l : Addr) (us : List V), v' = .ref l ∧ H l = none ∧ H' l = some (.lst us)) → Q v' H'
section
variable {P : Program} {w : World} {K : PySem.W.Frag} {mg : Str → Option Value} {base : Heap}
theorem c_copy_of_ (F : At K mg "copy_of" s_copy_of) (B : Bl mg) : Cal P w K mg base 1 "copy_of" (spCopy K) := by
  refine cal_of F sc_copy_of (fun vs H Q E h => ?_) (fun _ _ _ _ _ _ us hl => match us, hl with | [_], _ => rfl) (fun f cdv A outer s H vs Q E hr h => ?_)
  · obtain ⟨v, d, rfl, _⟩ := h
    rfl
  · obtain ⟨v, d, rfl, hd, ha, k⟩ := h
    refine ⟨_, (pss_cons (ps_if (pt_val (pe_callB (call_isinstanceA K) rfl B.isinstance (by decide +kernel) (pa_cons (pv 0) (pa_cons (pe_bltn (v := .ty "list") rfl B.list (by decide +kernel) rfl) pa_nil))))
   (pss_one (ps_ret (pe_callTy (call_listA K) rfl B.list (by decide +kernel) (pa_cons (pv 0) pa_nil))))
   pss_nil)
  (pss_one (ps_ret (pv 0)))), ?_⟩
    cases hd with
    | @lst a xs ds s r =>
      walk_at "rd"
      refine r_isi_lst_list s ?_
      walk_at "rx"
      refine ⟨a, xs, rfl, .inl s, fun l hl => ?_⟩
      walk_at "rx"
      have e := Evl.Ex.new (o := .lst xs) hl
      exact k _ _ e (.lst (SqL.of (imm_new hl upd_same)) (items_imm r ha)) (.inr ⟨l, xs, rfl, hl, upd_same⟩)
    | tup s r =>
      walk_at "rd"
      refine r_isi_tup_list s ?_
      walk_at "rx"
      exact k _ _ (Evl.Ex.refl _) (ans_imm (.tup s r) ha fun _ e => by cases e) (.inl fun _ e => by cases e)
    | non => walk_at "rx"; exact k _ _ (Evl.Ex.refl _) .non (.inl fun _ e => by cases e)
    | bl b => walk_at "rx"; exact k _ _ (Evl.Ex.refl _) (.bl b) (.inl fun _ e => by cases e)
    | int i => walk_at "rx"; exact k _ _ (Evl.Ex.refl _) (.int i) (.inl fun _ e => by cases e)
    | str z => walk_at "rx"; exact k _ _ (Evl.Ex.refl _) (.str z) (.inl fun _ e => by cases e)
end

abbrev N_is_entry : List Str := ["thing", "ageing"]
theorem sc_is_entry : FnScope N_is_entry ["thing", "ageing"] (defScope s_is_entry) := ⟨rfl, rfl, rfl, by decide +kernel, rfl, by decide +kernel, by decide +kernel⟩
def spEnt (K : PySem.W.Frag) : Sp := fun vs H Q _ => ∃ (v : V) (ag : Bool) (d : PyData), vs = [v, .bl ag] ∧ Dp K H v d ∧ fit d = true ∧ ∀ H', Evl.Ex H H' → Q (.bl (isEntryD ag d)) H'
theorem entry_len {ag : Bool} {xs : List PyData} (h : xs.length ≠ 2) : isEntryD ag (.tuple xs) = false := by
  unfold isEntryD
  split
  · rename_i p a e
    injection e with e
    subst e
    exact absurd rfl h
  · rfl
section
variable {P : Program} {w : World} {K : PySem.W.Frag} {mg : Str → Option Value} {base : Heap}
theorem c_is_entry_ (F : At K mg "is_entry" s_is_entry) (B : Bl mg) (c_is_path_1k1 : CalK P w K mg base 4 "is_path" (spPath K) 1 ["ageing"]) (c_is_answer : Cal P w K mg base 3 "is_answer" (spB1 K isAnswerD)) : Cal P w K mg base 5 "is_entry" (spEnt K) := by
  refine cal_of F sc_is_entry (fun vs H Q E h => ?_) (fun _ _ _ _ _ _ us hl => match us, hl with | [_, _], _ => rfl) (fun f cdv A outer s H vs Q E hr h => ?_)
  · obtain ⟨v, ag, d, rfl, _⟩ := h
    rfl
  · obtain ⟨v, ag, d, rfl, hd, hf, k⟩ := h
    refine ⟨_, (pss_cons (ps_if (PW.pt (pw_or (pt_not (pt_val (pe_callB (call_isinstanceA K) rfl B.isinstance (by decide +kernel) (pa_cons (pv 0) (pa_cons (pe_bltn (v := .ty "tuple") rfl B.tuple (by decide +kernel) rfl) pa_nil))))) (pw_or1 (pt_cmpR (op_neA K hr.units) (pe_callB (call_lenA K) rfl B.len (by decide +kernel) (pa_cons (pv 0) pa_nil)) pe_int (nomark _)))))
   (pss_one (ps_ret pe_bl))
   pss_nil)
  (pss_one (ps_ret (pe_and (pe_cK c_is_path_1k1 hr (by omega) rfl (pa_cons (pe_ix (ix_A K) (pv 0) pe_int (fun _ _ => rfl)) pa_nil) (pk_cons (pv 1) pk_nil)) (pe_one (pe_cA c_is_answer hr (by omega) rfl (pa_cons (pe_ix (ix_A K) (pv 0) pe_int (fun _ _ => rfl)) pa_nil))))))), ?_⟩
    cases hd with
    | lst s r => walk_at "rd"; refine r_isi_lst_tuple s ?_; walk_at "rx"; exact k _ (Evl.Ex.refl _)
    | @tup a xs ds s r =>
      have hl := DpAll.length r
      walk_at "rd"
      refine r_isi_tup_tuple s ?_
      walk_at "rx"
      refine r_lenT s ?_
      walk_at "rx"
      cases r with
      | nil => refine iteNN (by decide) ?_; walk_at "rx"; exact k _ (Evl.Ex.refl _)
      | @cons x0 xs1 d0 ds1 r0 r =>
      cases r with
      | nil => refine iteNN (by intro h; injection h with h; simp only [List.length_cons, List.length_nil] at h; omega) ?_; walk_at "rx"; rw [entry_len (by simp)] at k; exact k _ (Evl.Ex.refl _)
      | @cons x1 xs2 d1 ds2 r1 r =>
      cases r with
      | @cons x2 xs3 d2 ds3 r2 r =>
        refine iteNN (fun h => ?_) ?_
        · injection h with h; simp only [List.length_cons] at h; omega
        · walk_at "rx"
          rw [entry_len (by simp)] at k
          exact k _ (Evl.Ex.refl _)
      | nil =>
        refine iteNY rfl ?_
        have hf0 : fit d0 = true := fitAll_mem (fit_tuple hf).2 (by simp)
        have hf1 : fit d1 = true := fitAll_mem (fit_tuple hf).2 (by simp)
        walk_at "rd"
        refine r_ixT s rfl ?_
        walk_at "rd"
        refine ⟨rfl, rfl, _, ag, d0, rfl, r0, hf0, fun H1 e1 => ⟨_, rfl, ?_⟩⟩
        replace k : ∀ H', Evl.Ex H H' → Q (.bl (isPathD ag d0 && isAnswerD d1)) H' := k
        cases hp : isPathD ag d0 with
        | false =>
          rw [hp] at k
          refine iteFc rfl ?_
          exact k _ e1
        | true =>
          rw [hp] at k
          refine iteTc rfl ?_
          walk_at "rd"
          refine r_ixT (Evl.ex_t e1 s) rfl ?_
          walk_at "rd"
          exact ⟨_, d1, rfl, Dp.mono e1 r1, hf1, fun H2 e2 => k _ (e1.trans e2)⟩
    | _ => walk_at "rx"; exact k _ (Evl.Ex.refl _)
end

end WP

set_option Elab.async false
set_option linter.all false
set_option maxRecDepth 100000
set_option maxHeartbeats 4000000
namespace WP
open PySem PySem.Spec PyProof.Rows L2
local macro_rules | `(tactic| walk_at "rd") => `(tactic| repeat (first
  | with_reducible refine r_seq ?_ | with_reducible refine r_fld ?_ | with_reducible refine r_fldS ?_ | with_reducible refine r_meth ?_ | with_reducible refine r_methX ?_ | with_reducible refine r_make ?_ | with_reducible refine r_makeS ?_ | with_reducible refine r_makeKS ?_ | with_reducible refine r_dcA ?_ | with_reducible refine r_addOS ?_ | with_reducible refine r_dgetT ?_ | with_reducible refine r_dputT ?_ | with_reducible refine r_dget2T ?_ | with_reducible refine r_starT ?_ | with_reducible refine r_statT ?_ | with_reducible refine r_par3 ?_ | with_reducible refine r_callR ?_ | with_reducible refine r_callS ?_ | with_reducible refine r_mkO ?_ | with_reducible refine r_raise ?_ | with_reducible refine r_callW ?_ | with_reducible refine r_tru ?_ | with_reducible refine r_var rfl ?_ | with_reducible refine r_c ?_ | with_reducible refine r_op ?_ | with_reducible refine r_cons ?_ | with_reducible refine r_nil ?_
  | with_reducible refine r_cb ?_ | with_reducible refine r_call ?_ | with_reducible refine r_test ?_ | with_reducible refine r_B ?_ | with_reducible refine r_bl ?_ | with_reducible refine r_asg ?_ | with_reducible refine r_asgS ?_
  | with_reducible refine r_ret ?_ | with_reducible refine r_drop ?_ | with_reducible refine r_ifS ?_ | with_reducible refine r_if ?_ | with_reducible refine r_and ?_ | with_reducible refine r_or ?_ | with_reducible refine r_not ?_
  | with_reducible refine r_andV ?_ | with_reducible refine r_orV ?_ | with_reducible refine r_notV ?_ | with_reducible refine r_chain ?_ | with_reducible refine r_sl ?_ | with_reducible refine r_nopart ?_ | with_reducible refine r_part ?_ | with_reducible refine r_partN ?_ | with_reducible refine r_xv ?_ | with_reducible refine r_xo ?_ | with_reducible refine r_mkV ?_ | with_reducible refine r_forG ?_ | with_reducible refine r_listG ?_ | with_reducible refine r_methG ?_
  | with_reducible refine r_intO ?_ | with_reducible refine r_two ?_ | with_reducible refine r_m1 ?_ | with_reducible refine r_bm ?_ | with_reducible refine r_next ?_ | with_reducible refine r_gCons ?_ | with_reducible refine r_gNil ?_ | with_reducible refine r_asgT ?_ | with_reducible refine r_for ?_ | with_reducible refine r_rng1 ?_ | with_reducible refine r_iList ?_ | with_reducible refine r_iAny ?_ | with_reducible refine r_lc ?_ | with_reducible refine r_yes ?_ | with_reducible refine r_gN ?_ | with_reducible refine r_par ?_ | with_reducible refine r_un ?_ | with_reducible refine r_brk ?_ | with_reducible refine r_cont ?_
  | with_reducible refine r_I0 ?_ | with_reducible refine r_U ?_ | with_reducible refine r_addI ?_ | with_reducible refine r_abs ?_ | with_reducible refine r_intI ?_ | with_reducible refine r_max2 ?_ | with_reducible refine r_min2 ?_
  | with_reducible refine r_ltI ?_ | with_reducible refine r_leI ?_ | with_reducible refine r_gtI ?_ | with_reducible refine r_geI ?_ | with_reducible refine r_isN_non ?_ | with_reducible refine r_isN_int ?_ | with_reducible refine r_isN_str ?_ | with_reducible refine r_isN_bl ?_ | with_reducible refine r_isN_ref ?_ | with_reducible refine r_isN ?_ | with_reducible refine r_isB ?_ | with_reducible refine r_isnotN_non ?_ | with_reducible refine r_isnotN_int ?_ | with_reducible refine r_isnotN_str ?_ | with_reducible refine r_isnotN_bl ?_ | with_reducible refine r_isnotN_ref ?_ | with_reducible refine r_isnotN ?_ | with_reducible refine r_isnotB ?_
  | with_reducible refine r_inS ?_ | with_reducible refine r_eqS rfl ?_ | with_reducible refine r_neS rfl ?_ | with_reducible refine r_lst ?_ | with_reducible refine r_tup ?_ | with_reducible refine iteT ?_ | with_reducible refine iteF ?_))
local macro_rules | `(tactic| walk_at "isi") => `(tactic| (first
  | with_reducible refine r_isi_non_int ?_
  | with_reducible refine r_isi_non_str ?_
  | with_reducible refine r_isi_non_list ?_
  | with_reducible refine r_isi_non_tuple ?_
  | with_reducible refine r_isi_non_bool ?_
  | with_reducible refine r_isi_bl_int ?_
  | with_reducible refine r_isi_bl_str ?_
  | with_reducible refine r_isi_bl_list ?_
  | with_reducible refine r_isi_bl_tuple ?_
  | with_reducible refine r_isi_bl_bool ?_
  | with_reducible refine r_isi_int_int ?_
  | with_reducible refine r_isi_int_str ?_
  | with_reducible refine r_isi_int_list ?_
  | with_reducible refine r_isi_int_tuple ?_
  | with_reducible refine r_isi_int_bool ?_
  | with_reducible refine r_isi_str_int ?_
  | with_reducible refine r_isi_str_str ?_
  | with_reducible refine r_isi_str_list ?_
  | with_reducible refine r_isi_str_tuple ?_
  | with_reducible refine r_isi_str_bool ?_
  | with_reducible refine r_isi_lst_int (SqL.of (by assumption)) ?_
  | with_reducible refine r_isi_lst_str (SqL.of (by assumption)) ?_
  | with_reducible refine r_isi_lst_list (SqL.of (by assumption)) ?_
  | with_reducible refine r_isi_lst_tuple (SqL.of (by assumption)) ?_
  | with_reducible refine r_isi_lst_bool (SqL.of (by assumption)) ?_
  | with_reducible refine r_isi_tup_int (SqT.of (by assumption)) ?_
  | with_reducible refine r_isi_tup_str (SqT.of (by assumption)) ?_
  | with_reducible refine r_isi_tup_list (SqT.of (by assumption)) ?_
  | with_reducible refine r_isi_tup_tuple (SqT.of (by assumption)) ?_
  | with_reducible refine r_isi_tup_bool (SqT.of (by assumption)) ?_))
local macro_rules | `(tactic| walk_at "rs") => `(tactic| (first
  | ((with_reducible refine iteTc ?hc ?_); (case hc => rfl)) | ((with_reducible refine iteFc ?hc ?_); (case hc => rfl))
  | walk_at "isi"
  | refine r_ixL (SqL.of (by assumption)) rfl ?_ | refine r_ixL (SqL.of upd_same) rfl ?_
  | refine r_I (C := fun _ j => 0 < j) (by first | decide | assumption | omega) ?_
  | refine r_mulI (.inl ⟨by decide, by decide⟩) ?_ | refine r_mulI (.inr ⟨by decide, by decide⟩) ?_ | refine r_mulI (.inr ⟨by omega, by omega⟩) ?_ | refine r_mulI (.inl ⟨by omega, by omega⟩) ?_
  | refine r_I (wide_div (b := 64) (by decide) (by decide) (by decide) (by decide)) ?_
  | refine r_I (C := CPow) ⟨by decide, by decide, by decide⟩ ?_
  | refine r_setL (by assumption) rfl ?_ | refine r_setL upd_same rfl ?_))
local macro_rules | `(tactic| walk_at "rx") => `(tactic| (walk_at "rd"; (repeat (walk_at "rs"; walk_at "rd"))))

abbrev N_Part_init : List Str := ["self", "entries", "ageing", "seen", "at", "entry", "path"]
theorem sc_Part_init : FnScope N_Part_init ["self", "entries", "ageing"] (defScope s_Part_init) := ⟨rfl, rfl, rfl, by decide +kernel, rfl, by decide +kernel, by decide +kernel⟩
section
variable {P : Program} {w : World} {K : PySem.W.Frag} {mg : Str → Option Value} {base : Heap} {C BP : Addr}
theorem e_badpart {f : Addr} (T : ExcT P K mg "BadPart" "BadPart.__init__" s_BadPart_init BP f) (hm : mg "super" = none) (hno : PySem.W.findIn K (.ref BP) "at" = some none) : CalE P w K mg base 1 "BadPart" BP (spInit1 "at" K BP) := by
  obtain ⟨oc, od, kV, doc, pm, an, c, cc, ct, osl, lk, hcd, U⟩ := T.fn
  refine ⟨f, _, ["self", "at"], T.T, T.iC, T.tI, fn_sup (D := BP) (k := 0) (N := ["self", "at", "__class__"]) (ps := ["self", "at"]) lk hcd (NdefX.nscope_by (by decide +kernel)) hm rfl rfl rfl rfl (fun env => ⟨_, rfl⟩) (fun vs H Q E h => ?_) (fun A outer s H vs Q E h => ?_), Binds.all (fun us hl => match us, hl with | [_, _], _ => rfl), T.gC⟩
  · obtain ⟨a, v, rfl, _⟩ := h
    rfl
  · obtain ⟨a, v, rfl, ha, k⟩ := h
    refine ⟨⟨a, BP, [v], rfl, T.T, U, ha⟩, _, pss_one (ps_ost (pv 0) (pv 1)), ?_⟩
    exact r_var rfl (r_var rfl ⟨a, BP, rfl, T.T, hno, .inl ⟨ha, fun dx h1 h2 => k dx h1 h2⟩⟩)
def ansD : PyData → PyData
  | .tuple [_, a] => a
  | _ => .none
def rowD (d : PyData) : List Str × PyData := (pathD d, ansD d)
structure PartT (K : PySem.W.Frag) (C : Addr) : Prop where
  cl : Cls K C
  nA : NoAttr K C "ageing"
  nT : NoAttr K C "table"
/-- an entry: if it is right, its path is a tuple of the heap -/
def EntT (K : PySem.W.Frag) (H : Hp) (ag : Bool) (v : V) (d : PyData) : Prop := Dp K H v d ∧ (isEntryD ag d = true → ∃ (e b : Addr) (zs : List Str) (va : V) (da : PyData), v = .ref e ∧ SqT K H e [.ref b, va] ∧ H b = some (.tup (zs.map V.str)) ∧ d = .tuple [.tuple (zs.map PyData.str), da] ∧ Dp K H va da)
theorem EntT.mono {H H' : Hp} {ag : Bool} {v : V} {d : PyData} (e : Evl.Ex H H') (h : EntT K H ag v d) : EntT K H' ag v d :=
  ⟨Dp.mono e h.1, fun q => let ⟨x, b, zs, va, da, h1, h2, h3, h4, h5⟩ := h.2 q; ⟨x, b, zs, va, da, h1, Evl.ex_t e h2, e _ _ h3, h4, Dp.mono e h5⟩⟩
def spPart (K : PySem.W.Frag) (C BP : Addr) : Sp := fun vs H Q E => ∃ (x dx : Addr) (v : V) (ag : Bool), vs = [.ref x, v, .bl ag] ∧ H x = some (.ins C dx []) ∧
  ((∃ d, Dp K H v d ∧ fit d = true ∧ (∀ ds, d ≠ .list ds) ∧ (∀ ds, d ≠ .tuple ds) ∧ ∀ (H' : Hp) (dd : Addr), Evl.Ex H H' → H' dd = none → E (.ref BP) (some dd) (upd H' dd (.xd [("at", .int (-1))]))) ∨
   ∃ (a : Addr) (xs : List V) (ds : List PyData), v = .ref a ∧ SqA K H a xs ∧ Paired (EntT K H ag) xs ds ∧ fitAll ds = true ∧ ds.length ≤ 1000 ∧
    (∀ k : Nat, badAt ag [] ds = some k → ∀ (H' : Hp) (dd : Addr), Evl.Ex H H' → H' dd = none → E (.ref BP) (some dd) (upd H' dd (.xd [("at", .int (k : Nat))]))) ∧
    (badAt ag [] ds = none → ∀ (H' : Hp) (T : Addr) (kvs : List (List L2.Key × V)) (tab : PTab), Evl.Ex H H' → H T = none → H' T = some (.dT kvs) → PKV K (imm H H') kvs tab → TabOf (ds.map rowD) tab → (∀ d ∈ ds, isEntryD ag d = true) → Q .non (upd H' x (.ins C dx [("ageing", .bl ag), ("table", .ref T)]))))
theorem dp_non {K : PySem.W.Frag} {G : Hp} {v : V} {d : PyData} (h : Dp K G v d) : v = .non ↔ isNonD d = true := by
  cases h <;> simp [isNonD]
theorem good_all {ag : Bool} : ∀ {ds : List PyData} {seen : List (List Str)}, badAt ag seen ds = none → ∀ d ∈ ds, isEntryD ag d = true
  | [], _, _, _, hd => by cases hd
  | x :: r, seen, h, d, hd => by
    have h : (if isEntryD ag x = true ∧ pathD x ∉ seen then (badAt ag (pathD x :: seen) r).map (· + 1) else some 0) = none := h
    by_cases q : isEntryD ag x = true ∧ pathD x ∉ seen
    · rw [if_pos q] at h
      rcases List.mem_cons.mp hd with rfl | hd
      · exact q.1
      · exact good_all (Option.map_eq_none_iff.mp h) d hd
    · rw [if_neg q] at h
      cases h
theorem bad_step {ag : Bool} {ps : List (List Str)} {ds : List PyData} {i : Nat} {d : PyData} (h : ds[i]? = some d) : badAt ag ps (ds.drop i) = if isEntryD ag d = true ∧ pathD d ∉ ps then (badAt ag (pathD d :: ps) (ds.drop (i + 1))).map (· + 1) else some 0 := by
  obtain ⟨lt, e⟩ := List.getElem?_eq_some_iff.mp h
  rw [List.drop_eq_getElem_cons lt, e]
  rfl
theorem keys_in {kvs : List (List L2.Key × V)} {zs : List (List Str)} (h : kvs.map (·.1) = zs.map (·.map Sum.inr)) (z : List Str) : (valV kvs (z.map Sum.inr)).isSome = decide (z ∈ zs) := by
  rw [← valV_any, Bool.eq_iff_iff, List.any_eq_true, decide_eq_true_eq]
  have inj : ∀ {a b : List Str}, a.map (Sum.inr (α := Int)) = b.map Sum.inr → a = b := fun {a b} e => (List.map_inj_right (fun _ _ q => Sum.inr.inj q)).mp e
  constructor
  · rintro ⟨p, hp, e⟩
    have e := of_decide_eq_true e
    have m : p.1 ∈ zs.map (·.map Sum.inr) := by rw [← h]; exact List.mem_map_of_mem hp
    obtain ⟨y, hy, e'⟩ := List.mem_map.mp m
    rw [← inj (e'.trans e)]
    exact hy
  · intro hz
    have m : z.map Sum.inr ∈ kvs.map (·.1) := by rw [h]; exact List.mem_map_of_mem hz
    obtain ⟨p, hp, e⟩ := List.mem_map.mp m
    exact ⟨p, hp, decide_eq_true e⟩
theorem Paired.getE {H : Hp} {ag : Bool} : ∀ {xs : List V} {ds : List PyData} {i : Nat} {v : V}, Paired (EntT K H ag) xs ds → xs[i]? = some v → ∃ d, ds[i]? = some d ∧ EntT K H ag v d
  | _, _, _, _, .nil, h => by simp at h
  | _ :: _, _ :: _, 0, v, .cons h _, e => by
    simp only [List.getElem?_cons_zero, Option.some.injEq] at e
    subst e
    exact ⟨_, rfl, h⟩
  | _ :: _, _ :: _, i + 1, v, .cons _ r, e => by
    rw [List.getElem?_cons_succ] at e ⊢
    exact Paired.getE r e
theorem pairedAt {H : Hp} : ∀ {bs : List Addr} {ts : List (List Str)} {i : Nat} {b : Addr}, Paired (fun b t => H b = some (.tup (t.map V.str))) bs ts → bs[i]? = some b → ∃ t, ts[i]? = some t ∧ H b = some (.tup (t.map V.str))
  | _, _, _, _, .nil, h => by simp at h
  | _ :: _, _ :: _, 0, _, .cons h _, e => by
    simp only [List.getElem?_cons_zero, Option.some.injEq] at e
    subst e
    exact ⟨_, rfl, h⟩
  | _ :: _, _ :: _, i + 1, _, .cons _ r, e => by
    rw [List.getElem?_cons_succ] at e ⊢
    exact pairedAt r e
theorem c_part {f : Addr} {fd : FuncData} {dvs : List V} {kws : List (Str × V)} (F : FunD K "__init__" "Part.__init__" (defArgs s_Part_init) (defBody s_Part_init) (defScope s_Part_init) dvs kws f fd) (B : Bl mg) (T : PartT K C) (c_is_entry : Cal P w K mg base 5 "is_entry" (spEnt K)) (c_copy_of : Cal P w K mg base 1 "copy_of" (spCopy K)) (e_BadPart : CalE P w K mg base 1 "BadPart" BP (spInit1 "at" K BP)) :
    FnOk P w K mg base (L2.CX P w) 6 f fd ["self", "entries", "ageing"] (spPart K C BP) := by
  refine F.ok sc_Part_init (fun vs H Q E h => ?_) (fun cdv A outer s H vs Q E hr h => ?_)
  · obtain ⟨x, dx, v, ag, rfl, _⟩ := h
    rfl
  · obtain ⟨x, dx, v, ag, rfl, hx, h⟩ := h
    have tk : Takes (cxOf (L2.CX P w) P w K mg base N_Part_init "Part.__init__" (defScope s_Part_init) f cdv A outer s H E) (fun cls d _ H => E cls d H) := takes_of rfl rfl rfl rfl
    refine ⟨_, (pss_cons (ps_if (pt_not (pt_val (pe_callB (call_isinstanceTA K) rfl B.isinstance (by decide +kernel) (pa_cons (pv 1) (pa_cons (pe_tup (pa_cons (pe_bltn (v := .ty "list") rfl B.list (by decide +kernel) rfl) (pa_cons (pe_bltn (v := .ty "tuple") rfl B.tuple (by decide +kernel) rfl) pa_nil))) pa_nil)))))
   (pss_one (ps_raiseA rfl tk (pmk_exc e_BadPart hr (by omega) rfl (pa_cons (pe_un un_neg pe_int) pa_nil))))
   pss_nil)
  (pss_cons (ps_set (i := 3) sc_Part_init.nd rfl (Or.inr rfl) pe_dnewT)
  (pss_cons (ps_for (passes_of rfl) rfl (pi_enumA K rfl B.enumerate (pa_cons (pv 1) pa_nil)) (pg_tupA K (n := 2) (pg_tup rfl (pgs_cons (pg_name (i := 4) sc_Part_init.nd rfl (Or.inl rfl)) (pgs_cons (pg_name (i := 5) sc_Part_init.nd rfl (Or.inl rfl)) pgs_nil))))
   (pss_cons (ps_if (PW.pt (pw_or (pt_not (pt_val (pe_cA c_is_entry hr (by omega) rfl (pa_cons (pv 5) (pa_cons (pv 2) pa_nil))))) (pw_or1 (pt_cmpR (op_inD (hu_of hr)) (pe_ix (ix_A K) (pv 5) pe_int (fun _ _ => rfl)) (pv 3) (by rfl)))))
   (pss_one (ps_raiseA rfl tk (pmk_exc e_BadPart hr (by omega) rfl (pa_cons (pv 4) pa_nil))))
   pss_nil)
  (pss_one (ps_dput (hu_of hr) (pv 3) (pe_ix (ix_A K) (pv 5) pe_int (fun _ _ => rfl)) (pe_cA c_copy_of hr (by omega) rfl (pa_cons (pe_ix (ix_A K) (pv 5) pe_int (fun _ _ => rfl)) pa_nil)) rfl))))
  (pss_cons (ps_fldA K (pv 0) (pv 2))
  (pss_one (ps_fldA K (pv 0) (pe_dcA empty_t rfl hr.units0 (own := [("path", 6)]) sc_Part_init.nd (pi_any K (pe_callB (cr_sortedTx rfl) rfl B.sorted (by decide +kernel) (pa_cons (pv 3) pa_nil))) (blkOk_by (N := N_Part_init) (sc := defScope s_Part_init) (by decide +kernel)) (fun _ _ _ _ _ => (pg_name (i := 6) sc_Part_init.nd rfl (Or.inl rfl))) (fun _ _ _ _ _ => pts_one (pt_cmpR op_isnotA (pe_dget (hu_of hr) (pv 3) (pv 6) (fun _ _ => rfl)) pe_non (nomark _))) (fun _ _ _ _ _ => (pv 6)) (fun _ _ _ _ _ => (pe_dget (hu_of hr) (pv 3) (pv 6) (fun _ _ => rfl)))))))))), ?_⟩
    rcases h with ⟨d, hd, hf, nl, nt, k⟩ | ⟨a, xs, ds, rfl, hA, hE, hfs, hl, k1, k2⟩
    · walk_at "rd"
      refine ⟨by show 2 ≤ sizeLine; decide, fun tp htp => ?_⟩
      walk_at "rd"
      cases hd with
      | lst s r => exact absurd rfl (nl _)
      | tup s r => exact absurd rfl (nt _)
      | non => refine r_isiLT_non upd_same ?_; walk_at "rx"; exact mk1 fun dd hdd => k _ dd (Evl.Ex.new htp) hdd
      | bl b => refine r_isiLT_bl upd_same ?_; walk_at "rx"; exact mk1 fun dd hdd => k _ dd (Evl.Ex.new htp) hdd
      | int i => refine r_isiLT_int upd_same ?_; walk_at "rx"; exact mk1 fun dd hdd => k _ dd (Evl.Ex.new htp) hdd
      | str z => refine r_isiLT_str upd_same ?_; walk_at "rx"; exact mk1 fun dd hdd => k _ dd (Evl.Ex.new htp) hdd
    · walk_at "rd"
      refine ⟨by show 2 ≤ sizeLine; decide, fun tp htp => ?_⟩
      walk_at "rd"
      refine r_isiLT_A upd_same (hA.mono (Evl.Ex.new htp)) ?_
      walk_at "rd"
      have e1 : Evl.Ex H (upd H tp (.tup [.ty "list", .ty "tuple"])) := Evl.Ex.new htp
      generalize upd H tp (HO.tup _) = H1 at e1 ⊢
      walk_at "rx"
      intro D hD
      have hD0 : H D = none := ex_dom e1 hD
      have e2 : Evl.Ex H (upd H1 D (.dT [])) := Evl.Ex.mut e1 hD0
      walk_at "rd"
      refine r_enumV rfl hA e2 fun J G wk hG => for_it wk (fun i σ H' => ∃ (ps : List (List Str)) (kvs : List (List L2.Key × V)) (w4 w5 w6 : Option V), σ = [some (.ref x), some (.ref a), some (.bl ag), some (.ref D), w4, w5, w6] ∧ ps.length = i ∧ (PKV K (hid D (imm H H')) kvs ((ds.take i).map rowD) ∧ ((ds.take i).map rowD).map (·.1) = ps.reverse ∧ ps.Nodup) ∧ (∀ z ∈ ps, z ≠ []) ∧
        badAt ag [] ds = (badAt ag ps (ds.drop i)).map (· + i) ∧ Evl.Ex H H' ∧ H' D = some (.dT kvs)) ?_ ?_ ?_ ?_
      · exact ⟨[], [], _, _, _, rfl, rfl, ⟨.nil, rfl, List.nodup_nil⟩, (fun _ h => by cases h), by simp, e2, upd_same⟩
      · rintro i σ H' _ ⟨ps, kvs, w4, w5, w6, rfl, _, _, _, _, e, _⟩
        exact hG _ e
      · rintro i y σ H2 H3 hi ⟨ps, kvs, w4, w5, w6, rfl, hpl, ⟨hPK, hpk, hnd⟩, hne, hbad, ex, hD2⟩ ⟨q, xv, rfl, hq, rfl, hxi⟩
        have hk : kvs.map (·.1) = ps.reverse.map (·.map Sum.inr) := by rw [hPK.keys, hpk]; rfl
        obtain ⟨dv, hdv, hdp⟩ := Paired.getE hE hxi
        have hfv : fit dv = true := fitAll_mem hfs (List.mem_of_getElem? hdv)
        have e3 : Evl.Ex H2 (upd H2 q (.tup [.int (i : Nat), xv])) := Evl.Ex.new hq
        refine r_gTup (SqT.of upd_same) rfl ?_
        generalize upd H2 q (HO.tup _) = H3 at e3 ⊢
        rw [bad_step hdv] at hbad
        have hil : i < 1000 := by
          have := (List.getElem?_eq_some_iff.mp hdv).1
          omega
        replace hD2 := e3 _ _ hD2
        replace ex := ex.trans e3
        replace hPK := hPK.mono (hid_mono (imm_mono e3))
        clear e3 hq
        have hdp' := hdp.mono ex
        walk_at "rd"
        refine ⟨xv, ag, dv, rfl, hdp'.1, hfv, fun H4 e4 => ?_⟩
        replace hD2 := e4 _ _ hD2
        replace ex := ex.trans e4
        replace hdp' := hdp'.mono e4
        replace hPK := hPK.mono (hid_mono (imm_mono e4))
        clear e4
        walk_at "rd"
        have bad : badAt ag [] ds = some i → tRaise (tMkO BP (spInit1 "at" K BP) [] (tCons (tVar 4) tNil)) (fun cls d x H => E cls d H) { nx := fun _ _ => False, rt := fun _ _ => False } [some (.ref x), some (.ref a), some (.bl ag), some (.ref D), some (.int (i : Nat)), some xv, w6] H4 := fun hb => by
          walk_at "rd"
          exact mk1 fun dd hdd => k1 i hb _ dd ex hdd
        refine iteNB (fun h1 => ?_) (fun h1 => ?_)
        · rw [if_neg (fun h => by rw [h1] at h; exact absurd h.1 Bool.false_ne_true)] at hbad
          have hb : badAt ag [] ds = some i := by rw [hbad]; simp
          exact bad hb
        · obtain ⟨en, b, zs, va, da, rfl, hen, hb, rfl, hda⟩ := hdp'.2 h1
          have epath : pathD (.tuple [.tuple (zs.map PyData.str), da]) = zs := by
            show (zs.map PyData.str).map _ = zs
            rw [List.map_map]
            exact (List.map_congr_left fun _ _ => rfl).trans (List.map_id zs)
          rw [epath] at hbad
          walk_at "rd"
          refine r_ixT hen rfl ?_
          walk_at "rd"
          have hbk : H4 b = some (.tup ((zs.map (Sum.inr (α := Int))).map kV)) := by rw [List.map_map]; exact hb
          refine ⟨D, _, rfl, DGet.t hD2 hbk, ?_⟩
          rw [keys_in hk]
          walk_at "rd"
          refine iteD (fun h2 => ?_) (fun h2 => ?_)
          · have h2 : zs ∈ ps := List.mem_reverse.mp h2
            rw [if_neg (fun h => h.2 h2)] at hbad
            have hb : badAt ag [] ds = some i := by rw [hbad]; simp
            exact bad hb
          · have h2 : zs ∉ ps := fun h => h2 (List.mem_reverse.mpr h)
            rw [if_pos ⟨h1, h2⟩] at hbad
            have hz : zs ≠ [] := fun e => by
              subst e
              simp [isEntryD, isPathD] at h1
            walk_at "rd"
            refine r_ixT hen rfl ?_
            walk_at "rd"
            have haa : isAnswerD da = true := (Bool.and_eq_true_iff.mp (show (isPathD ag (.tuple (zs.map PyData.str)) && isAnswerD da) = true from h1)).2
            refine ⟨va, da, rfl, hda, haa, fun v' H5 e5 hv' _ => ?_⟩
            have hD2' := hD2
            replace hD2 := e5 _ _ hD2
            replace hPK := hPK.mono (hid_mono (imm_mono e5))
            have hv5 : Dp K (hid D (imm H H5)) v' da := Dp.mono (imm_base3 ex e5 hD2' rfl) hv'
            replace ex := ex.trans e5
            replace hen := Evl.ex_t e5 hen
            replace hbk := e5 _ _ hbk
            walk_at "rd"
            refine r_ixT hen rfl ?_
            walk_at "rd"
            have hnone : valV kvs (zs.map Sum.inr) = none := by
              have := keys_in hk zs
              rw [decide_eq_false (fun h => h2 (List.mem_reverse.mp h))] at this
              exact Option.isNone_iff_eq_none.mp (by rw [← Option.not_isSome, this]; rfl)
            have hkl : kvs.length = i := by
              have := congrArg List.length hk
              rw [List.length_map, List.length_map, List.length_reverse] at this
              omega
            refine ⟨D, _, rfl, DPut.t hD2 hbk (by rw [sizeLine_eq]; omega), ?_⟩
            rw [putK_new _ hnone]
            have etk : (ds.take (i + 1)).map rowD = (ds.take i).map rowD ++ [(zs, da)] := by
              rw [List.take_add_one, hdv, List.map_append]
              show _ ++ [rowD _] = _
              unfold rowD
              rw [epath]
              rfl
            refine ⟨zs :: ps, kvs ++ [(zs.map Sum.inr, v')], _, _, _, rfl, by rw [List.length_cons, hpl], ⟨?_, ?_, List.nodup_cons.mpr ⟨h2, hnd⟩⟩, ?_, ?_, Evl.Ex.mut ex hD0, upd_same⟩
            · rw [etk]
              rw [imm_put hD0]
              exact hPK.snoc rfl hv5
            · rw [etk, List.map_append, hpk, List.reverse_cons]
              rfl
            · intro z hm
              rcases List.mem_cons.mp hm with rfl | hm
              · exact hz
              · exact hne z hm
            · rw [hbad, Option.map_map]
              congr 1
              funext n
              simp only [Function.comp]
              omega
      · rintro σ H2 ⟨ps, kvs, w4, w5, w6, rfl, hpl, ⟨hPK, hpk, hnd⟩, hne, hbad, ex, hD2⟩
        have hk : kvs.map (·.1) = ps.reverse.map (·.map Sum.inr) := by rw [hPK.keys, hpk]; rfl
        have hxl : xs.length = ds.length := Paired.length hE
        rw [hxl, List.take_length] at hPK hpk
        rw [hxl, List.drop_length] at hbad
        have hnone : badAt ag [] ds = none := by rw [hbad]; rfl
        generalize hrows : ds.map rowD = rows at hPK hpk
        have hkl : kvs.length = ds.length := by rw [hPK.len, ← hrows, List.length_map]
        walk_at "rd"
        have nxD : x ≠ D := ne_of_none hx hD0
        refine ⟨x, C, dx, [], rfl, ex _ _ hx, T.cl, T.nA, by show 0 < 1000; decide, ?_⟩
        have hD3 : upd H2 x (.ins C dx (putF "ageing" (.bl ag) [])) D = some (.dT kvs) := by rw [upd_ne nxD.symm]; exact hD2
        have hx3 : upd H2 x (.ins C dx (putF "ageing" (.bl ag) [])) x = some (.ins C dx [("ageing", .bl ag)]) := upd_same
        have hPK3 : PKV K (imm H (upd H2 x (.ins C dx (putF "ageing" (.bl ag) [])))) kvs rows := hPK.mono (hid_ex.trans (imm_upd hx rfl))
        generalize hH3 : upd H2 x (.ins C dx (putF "ageing" (.bl ag) [])) = H3 at hD3 hx3 hPK3 ⊢
        have ex3 : Evl.Ex H (upd H3 x (.ins C dx [])) := fun c o hc => by
          by_cases hcx : c = x
          · subst hcx
            rw [upd_same, ← hc, hx]
          · rw [upd_ne hcx, ← hH3, upd_ne hcx]
            exact ex _ _ hc
        walk_at "rd"
        refine ⟨D, kvs, ps.reverse, rfl, .inl hD3, hk, fun z hz => hne z (List.mem_reverse.mp hz), fun p bs ts hp hbs perm srt => ?_⟩
        refine .inl ⟨p, rfl, ⟨_, SqL.of upd_same⟩, fun Tb hTb => ?_⟩
        have e4 : Evl.Ex H3 (upd H3 p (.lst (bs.map V.ref))) := Evl.Ex.new hp
        have hp4 : upd H3 p (.lst (bs.map V.ref)) p = some (.lst (bs.map V.ref)) := upd_same
        have hPK4 := hPK3.mono (imm_mono e4)
        generalize upd H3 p (HO.lst (bs.map V.ref)) = H4 at e4 hp4 hTb hPK4 ⊢
        have hTb0 : H Tb = none := by
          have h3 := ex_dom e4 hTb
          have nTx : Tb ≠ x := fun q => by rw [q, hx3] at h3; cases h3
          rw [← hH3, upd_ne nTx] at h3
          exact ex_dom ex h3
        have nd : (rows.map (·.1)).Nodup := by rw [hpk]; exact (List.reverse_perm ps).nodup_iff.mpr hnd
        have ndt : ts.Nodup := (perm.trans (List.Perm.of_eq hpk.symm)).nodup_iff.mpr nd
        refine dc_list (K := K) (a := p) (xs := bs.map V.ref) (fun i H' => Evl.Ex H4 H' ∧ ∃ kvs2, H' Tb = some (.dT kvs2) ∧ PKV K (hid Tb (imm H H')) kvs2 (((ts.take i).map fun z => (z, (tabV rows z).getD .none)).filter fun t => !isNonD t.2)) ?_ ?_ ?_ ?_
        · exact ⟨Evl.Ex.new hTb, [], upd_same, .nil⟩
        · rintro i H' ⟨e, _⟩
          exact SqL.of (e _ _ hp4)
        · rintro i v H' hv ⟨e5, kvs2, hT2, hP2⟩
          rw [List.getElem?_map] at hv
          obtain ⟨b, hb, rfl⟩ := Option.map_eq_some_iff.mp hv
          obtain ⟨t, ht, hbt⟩ := pairedAt hbs hb
          have hbk : H' b = some (.tup ((t.map (Sum.inr (α := Int))).map kV)) := by rw [List.map_map]; exact e5 _ _ (e4 _ _ hbt)
          have hDk := e5 _ _ (e4 _ _ hD3)
          have hPK5 := hPK4.mono (imm_mono e5)
          have mt : t ∈ rows.map (·.1) := by rw [hpk]; exact perm.mem_iff.mp (List.mem_of_getElem? ht)
          obtain ⟨d, hd⟩ := tabV_some mt
          obtain ⟨val, hval, hdv⟩ : ∃ val, valV kvs (kvOf t) = some val ∧ Dp K (imm H H') val d := by
            rcases hPK5.val (z := t) with ⟨_, q⟩ | ⟨v, d', q1, q2, q3⟩
            · rw [hd] at q; cases q
            · rw [hd] at q2
              cases q2
              exact ⟨v, q1, q3⟩
          have hilt := (List.getElem?_eq_some_iff.mp ht).1
          have hlen : i < 1000 := by
            rw [perm.length_eq, ← hpk, List.length_map, ← hrows, List.length_map] at hilt
            omega
          have etk : (ts.take (i + 1)).map (fun z => (z, (tabV rows z).getD .none)) = (ts.take i).map (fun z => (z, (tabV rows z).getD .none)) ++ [(t, d)] := by
            rw [List.take_add_one, ht, List.map_append]
            show _ ++ [(t, (tabV rows t).getD .none)] = _
            rw [hd]
            rfl
          rw [etk, List.filter_append]
          walk_at "rd"
          refine ⟨rfl, ?_⟩
          walk_at "rd"
          refine ⟨D, val, rfl, by rw [← hval]; exact DGet.t hDk hbk, ?_⟩
          walk_at "rd"
          by_cases hn : val = .non
          · refine iteNY hn ?_
            have : isNonD d = true := (dp_non hdv).mp hn
            rw [List.filter_cons_of_neg (by simp [this]), List.filter_nil, List.append_nil]
            exact ⟨e5, kvs2, hT2, hP2⟩
          · refine iteNN hn ?_
            have hdn : isNonD d = false := by
              cases q : isNonD d with
              | false => rfl
              | true => exact absurd ((dp_non hdv).mpr q) hn
            rw [List.filter_cons_of_pos (by simp [hdn]), List.filter_nil]
            walk_at "rd"
            refine ⟨D, val, rfl, by rw [← hval]; exact DGet.t hDk hbk, ?_⟩
            have hl2 : kvs2.length ≤ i := by
              rw [hP2.len]
              refine Nat.le_trans (List.length_filter_le _ _) ?_
              rw [List.length_map, List.length_take]
              exact Nat.min_le_left _ _
            have hnew : valV kvs2 (t.map Sum.inr) = none := by
              rcases hP2.val (z := t) with ⟨q, _⟩ | ⟨v, d', _, q2, _⟩
              · exact q
              · have m := (List.mem_filter.mp (tabV_mem q2)).1
                obtain ⟨z, hz, ez⟩ := List.mem_map.mp m
                cases ez
                have : (ts.take i ++ ts.drop i).Nodup := by rw [List.take_append_drop]; exact ndt
                have hdr : t ∈ ts.drop i := by rw [List.drop_eq_getElem_cons hilt, (List.getElem?_eq_some_iff.mp ht).2]; exact List.mem_cons_self ..
                exact absurd rfl ((List.nodup_append.mp this).2.2 t hz t hdr)
            have nvT : Evl.Ex (imm H H') (imm H H') := Evl.Ex.refl _
            refine ⟨_, DPut.t hT2 hbk (by rw [sizeLine_eq]; omega), Evl.Ex.mut e5 hTb, _, upd_same, ?_⟩
            rw [putK_new _ hnew, imm_put hTb0]
            refine hP2.snoc rfl (Dp.hidM (imm_new hTb0 hT2) rfl hdv)
        · rintro H' ⟨e5, kvs2, hT2, hP2⟩
          have hbl : (bs.map V.ref).length = ts.length := by rw [List.length_map]; exact Paired.length hbs
          rw [hbl, List.take_length] at hP2
          walk_at "rd"
          refine ⟨x, C, dx, [("ageing", .bl ag)], rfl, e5 _ _ (e4 _ _ hx3), T.cl, T.nT, by show 1 < 1000; decide, ?_⟩
          have eu : upd H' x (.ins C dx (putF "table" (.ref Tb) [("ageing", .bl ag)])) = upd (upd H' x (.ins C dx [])) x (.ins C dx [("ageing", .bl ag), ("table", .ref Tb)]) := by rw [upd_upd]; rfl
          show Q .non _
          rw [eu]
          have nTx : Tb ≠ x := fun q => by rw [q, e4 _ _ hx3] at hTb; cases hTb
          refine k2 hnone _ Tb kvs2 _ (fun c o hc => ?_) hTb0 ?_ (hP2.mono (hid_ex.trans (imm_upd hx rfl))) ?_ (good_all hnone)
          · by_cases hcx : c = x
            · subst hcx
              rw [upd_same, ← hc, hx]
            · rw [upd_ne hcx]
              refine e5 _ _ (e4 _ _ ?_)
              rw [← hH3, upd_ne hcx]
              exact ex _ _ hc
          · rw [upd_ne nTx]
            exact hT2
          · rw [hrows]
            exact tab_sorted nd (perm.trans (List.Perm.of_eq hpk.symm)) srt
end

end WP

set_option Elab.async false
set_option linter.all false
set_option maxRecDepth 100000
set_option maxHeartbeats 4000000
namespace WP
open PySem PySem.Spec PyProof.Rows L2
local macro_rules | `(tactic| walk_at "rd") => `(tactic| repeat (first
  | with_reducible refine r_seq ?_ | with_reducible refine r_fld ?_ | with_reducible refine r_fldS ?_ | with_reducible refine r_meth ?_ | with_reducible refine r_methX ?_ | with_reducible refine r_make ?_ | with_reducible refine r_makeS ?_ | with_reducible refine r_makeKS ?_ | with_reducible refine r_dcA ?_ | with_reducible refine r_addOS ?_ | with_reducible refine r_dgetT ?_ | with_reducible refine r_dputT ?_ | with_reducible refine r_dget2T ?_ | with_reducible refine r_starT ?_ | with_reducible refine r_statT ?_ | with_reducible refine r_par3 ?_ | with_reducible refine r_callR ?_ | with_reducible refine r_callS ?_ | with_reducible refine r_mkO ?_ | with_reducible refine r_raise ?_ | with_reducible refine r_callW ?_ | with_reducible refine r_tru ?_ | with_reducible refine r_var rfl ?_ | with_reducible refine r_c ?_ | with_reducible refine r_op ?_ | with_reducible refine r_cons ?_ | with_reducible refine r_nil ?_
  | with_reducible refine r_cb ?_ | with_reducible refine r_call ?_ | with_reducible refine r_test ?_ | with_reducible refine r_B ?_ | with_reducible refine r_bl ?_ | with_reducible refine r_asg ?_ | with_reducible refine r_asgS ?_
  | with_reducible refine r_ret ?_ | with_reducible refine r_drop ?_ | with_reducible refine r_ifS ?_ | with_reducible refine r_if ?_ | with_reducible refine r_and ?_ | with_reducible refine r_or ?_ | with_reducible refine r_not ?_
  | with_reducible refine r_andV ?_ | with_reducible refine r_orV ?_ | with_reducible refine r_notV ?_ | with_reducible refine r_chain ?_ | with_reducible refine r_sl ?_ | with_reducible refine r_nopart ?_ | with_reducible refine r_part ?_ | with_reducible refine r_partN ?_ | with_reducible refine r_xv ?_ | with_reducible refine r_xo ?_ | with_reducible refine r_mkV ?_ | with_reducible refine r_forG ?_ | with_reducible refine r_listG ?_ | with_reducible refine r_methG ?_
  | with_reducible refine r_intO ?_ | with_reducible refine r_two ?_ | with_reducible refine r_m1 ?_ | with_reducible refine r_bm ?_ | with_reducible refine r_next ?_ | with_reducible refine r_gCons ?_ | with_reducible refine r_gNil ?_ | with_reducible refine r_asgT ?_ | with_reducible refine r_for ?_ | with_reducible refine r_rng1 ?_ | with_reducible refine r_iList ?_ | with_reducible refine r_iAny ?_ | with_reducible refine r_lc ?_ | with_reducible refine r_yes ?_ | with_reducible refine r_gN ?_ | with_reducible refine r_par ?_ | with_reducible refine r_un ?_ | with_reducible refine r_brk ?_ | with_reducible refine r_cont ?_
  | with_reducible refine r_I0 ?_ | with_reducible refine r_U ?_ | with_reducible refine r_addI ?_ | with_reducible refine r_abs ?_ | with_reducible refine r_intI ?_ | with_reducible refine r_max2 ?_ | with_reducible refine r_min2 ?_
  | with_reducible refine r_ltI ?_ | with_reducible refine r_leI ?_ | with_reducible refine r_gtI ?_ | with_reducible refine r_geI ?_ | with_reducible refine r_isN_non ?_ | with_reducible refine r_isN_int ?_ | with_reducible refine r_isN_str ?_ | with_reducible refine r_isN_bl ?_ | with_reducible refine r_isN_ref ?_ | with_reducible refine r_isN ?_ | with_reducible refine r_isB ?_ | with_reducible refine r_isnotN_non ?_ | with_reducible refine r_isnotN_int ?_ | with_reducible refine r_isnotN_str ?_ | with_reducible refine r_isnotN_bl ?_ | with_reducible refine r_isnotN_ref ?_ | with_reducible refine r_isnotN ?_ | with_reducible refine r_isnotB ?_
  | with_reducible refine r_inS ?_ | with_reducible refine r_eqS rfl ?_ | with_reducible refine r_neS rfl ?_ | with_reducible refine r_lst ?_ | with_reducible refine r_tup ?_ | with_reducible refine iteT ?_ | with_reducible refine iteF ?_))
local macro_rules | `(tactic| walk_at "isi") => `(tactic| (first
  | with_reducible refine r_isi_non_int ?_
  | with_reducible refine r_isi_non_str ?_
  | with_reducible refine r_isi_non_list ?_
  | with_reducible refine r_isi_non_tuple ?_
  | with_reducible refine r_isi_non_bool ?_
  | with_reducible refine r_isi_bl_int ?_
  | with_reducible refine r_isi_bl_str ?_
  | with_reducible refine r_isi_bl_list ?_
  | with_reducible refine r_isi_bl_tuple ?_
  | with_reducible refine r_isi_bl_bool ?_
  | with_reducible refine r_isi_int_int ?_
  | with_reducible refine r_isi_int_str ?_
  | with_reducible refine r_isi_int_list ?_
  | with_reducible refine r_isi_int_tuple ?_
  | with_reducible refine r_isi_int_bool ?_
  | with_reducible refine r_isi_str_int ?_
  | with_reducible refine r_isi_str_str ?_
  | with_reducible refine r_isi_str_list ?_
  | with_reducible refine r_isi_str_tuple ?_
  | with_reducible refine r_isi_str_bool ?_
  | with_reducible refine r_isi_lst_int (SqL.of (by assumption)) ?_
  | with_reducible refine r_isi_lst_str (SqL.of (by assumption)) ?_
  | with_reducible refine r_isi_lst_list (SqL.of (by assumption)) ?_
  | with_reducible refine r_isi_lst_tuple (SqL.of (by assumption)) ?_
  | with_reducible refine r_isi_lst_bool (SqL.of (by assumption)) ?_
  | with_reducible refine r_isi_tup_int (SqT.of (by assumption)) ?_
  | with_reducible refine r_isi_tup_str (SqT.of (by assumption)) ?_
  | with_reducible refine r_isi_tup_list (SqT.of (by assumption)) ?_
  | with_reducible refine r_isi_tup_tuple (SqT.of (by assumption)) ?_
  | with_reducible refine r_isi_tup_bool (SqT.of (by assumption)) ?_))
local macro_rules | `(tactic| walk_at "rs") => `(tactic| (first
  | ((with_reducible refine iteTc ?hc ?_); (case hc => rfl)) | ((with_reducible refine iteFc ?hc ?_); (case hc => rfl))
  | walk_at "isi"
  | refine r_ixL (SqL.of (by assumption)) rfl ?_ | refine r_ixL (SqL.of upd_same) rfl ?_
  | refine r_I (C := fun _ j => 0 < j) (by first | decide | assumption | omega) ?_
  | refine r_mulI (.inl ⟨by decide, by decide⟩) ?_ | refine r_mulI (.inr ⟨by decide, by decide⟩) ?_ | refine r_mulI (.inr ⟨by omega, by omega⟩) ?_ | refine r_mulI (.inl ⟨by omega, by omega⟩) ?_
  | refine r_I (wide_div (b := 64) (by decide) (by decide) (by decide) (by decide)) ?_
  | refine r_I (C := CPow) ⟨by decide, by decide, by decide⟩ ?_
  | refine r_setL (by assumption) rfl ?_ | refine r_setL upd_same rfl ?_))
local macro_rules | `(tactic| walk_at "rx") => `(tactic| (walk_at "rd"; (repeat (walk_at "rs"; walk_at "rd"))))

abbrev N_law_name : List Str := ["_law_bag_here"]
theorem sc_law_name : FnScope N_law_name ["_law_bag_here"] (defScope s_law_name) := ⟨rfl, rfl, rfl, by decide +kernel, rfl, by decide +kernel, by decide +kernel⟩
def spLName : Sp := fun vs H Q _ => ∃ (b : Addr) (n : Nat), vs = [.ref b] ∧ Bag b n H ∧ n + 20 < 1000000000000 ∧ ∀ (z : Str) (H' : Hp), z.length ≤ 9 → Drw b (n + 20) H H' → Q (.str z) H'
section
variable {P : Program} {w : World} {K : PySem.W.Frag} {mg : Str → Option Value} {base : Heap}
theorem c_lname (F : At K mg "_law_name" s_law_name) (B : Bl mg) (c_law_of : Cal P w K mg base 2 "_law_of" (spOf K)) (c_law_word : Cal P w K mg base 3 "_law_word" spWord) : Cal P w K mg base 4 "_law_name" spLName := by
  refine cal_of F sc_law_name (fun vs H Q E h => ?_) (fun _ _ _ _ _ _ us hl => match us, hl with | [_], _ => rfl) (fun f cdv A outer s H vs Q E hr h => ?_)
  · obtain ⟨b, n, rfl, _⟩ := h
    rfl
  · obtain ⟨b, n, rfl, hb, hn, k⟩ := h
    refine ⟨_, (pss_one (ps_ret (pe_op (op_addA K) (pe_op (op_addA K) (pe_cA c_law_of hr (by omega) rfl (pa_cons (pv 0) (pa_cons pe_str pa_nil))) pe_str) (pe_cA c_law_word hr (by omega) rfl (pa_cons (pv 0) (pa_cons pe_int pa_nil)))))), ?_⟩
    walk_at "rd"
    refine ⟨b, _, n, rfl, hb, by omega, .inr ⟨_, rfl, by decide +kernel, by decide +kernel, fun c hc H1 r1 => ?_⟩⟩
    walk_at "rd"
    refine r_addS (by rw [sizeLine_eq]; show 1 + 1 ≤ _; omega) ?_
    walk_at "rd"
    refine ⟨b, 7, _, rfl, r1.bag, by omega, by omega, fun z H2 hz r2 => ?_⟩
    have h2 : ((⟨#[c]⟩ : Str) ++ ("q" : Str)).length = 2 := by rw [len_app]; rfl
    have h3 := hz.1
    refine r_addS (by rw [sizeLine_eq, h2]; omega) ?_
    exact k _ _ (by rw [len_app, h2]; omega) ((r1.trans r2).mono (by omega))
end

abbrev N_law_family : List Str := ["_law_bag_here", "_law_most", "_law_found", "_law_turn", "_law_name_here"]
theorem sc_law_family : FnScope N_law_family ["_law_bag_here", "_law_most"] (defScope s_law_family) := ⟨rfl, rfl, rfl, by decide +kernel, rfl, by decide +kernel, by decide +kernel⟩
def spLFam : Sp := fun vs H Q _ => ∃ (b : Addr) (n m : Nat), vs = [.ref b, .int (m : Nat)] ∧ Bag b n H ∧ n + 200 < 1000000000000 ∧ m ≤ 10 ∧
  ∀ (D : Addr) (kvs : List (Key × V)) (zs : List Str) (H' : Hp), H D = none → hid b H' D = some (.dK kvs) → kvs.map (·.1) = zs.map Sum.inr → (∀ z ∈ zs, ClsN z) → 0 < zs.length → zs.length ≤ 14 → Drw b (n + 200) H H' → Q (.ref D) H'
section
variable {P : Program} {w : World} {K : PySem.W.Frag} {mg : Str → Option Value} {base : Heap}
theorem caps_eq : ("ABCDEFGHIJKLMNOPQRSTUVWXYZ" : Str).cps.toList = (List.range 26).map (· + 65) := by decide +kernel
theorem caps_ok {c : Nat} (h : c ∈ ("ABCDEFGHIJKLMNOPQRSTUVWXYZ" : Str).cps.toList) : 65 ≤ c ∧ c ≤ 90 := by
  rw [caps_eq] at h
  obtain ⟨x, hx, rfl⟩ := List.mem_map.mp h
  have := List.mem_range.mp hx
  omega
theorem caps_at {i : Nat} (h : i < 26) : ("ABCDEFGHIJKLMNOPQRSTUVWXYZ" : Str).cps.toList[i]? = some (i + 65) := by
  rw [caps_eq, List.getElem?_map, List.getElem?_range h]
  rfl
theorem put_keys {kvs : List (Key × V)} {zs : List Str} {z : Str} {v : V} (h : kvs.map (·.1) = zs.map Sum.inr) : ∃ ys : List Str, (putK kvs (Sum.inr z) v).map (·.1) = ys.map Sum.inr ∧ (∀ y ∈ ys, y ∈ zs ∨ y = z) ∧ zs.length ≤ ys.length ∧ ys.length ≤ zs.length + 1 := by
  unfold putK
  split
  · refine ⟨zs, ?_, fun y hy => .inl hy, Nat.le_refl _, Nat.le_succ _⟩
    rw [List.map_map, ← h]
    refine List.map_congr_left fun p _ => ?_
    show (if p.1 = Sum.inr z then (p.1, v) else p).1 = p.1
    split <;> rfl
  · refine ⟨zs ++ [z], by rw [List.map_append, List.map_append, h]; rfl, fun y hy => ?_, by simp, by simp⟩
    rcases List.mem_append.mp hy with hy | hy
    · exact .inl hy
    · exact .inr (List.mem_singleton.mp hy)
theorem c_lfamily (F : At K mg "_law_family" s_law_family) (B : Bl mg) (c_law_take : Cal P w K mg base 1 "_law_take" spTake) (c_law_of : Cal P w K mg base 2 "_law_of" (spOf K)) (c_law_word : Cal P w K mg base 3 "_law_word" spWord) : Cal P w K mg base 4 "_law_family" spLFam := by
  refine cal_of F sc_law_family (fun vs H Q E h => ?_) (fun _ _ _ _ _ _ us hl => match us, hl with | [_, _], _ => rfl) (fun f cdv A outer s H vs Q E hr h => ?_)
  · obtain ⟨b, n, m, rfl, _⟩ := h
    rfl
  · obtain ⟨b, n, m, rfl, hb, hn, hm, k⟩ := h
    refine ⟨_, (pss_cons (ps_set (i := 2) sc_law_family.nd rfl (Or.inl rfl) (pe_disp (pps_cons pe_str pe_non (pps_cons pe_str pe_str (pps_cons pe_str pe_str (pps_cons pe_str pe_str pps_nil)))) (by rfl) (by rfl) (fun z => by cases z) (by decide)))
  (pss_cons (ps_for PassesOwn.never rfl (pi_range1 rfl B.range (pa_cons (pe_cA c_law_take hr (by omega) rfl (pa_cons (pv 0) (pa_cons (pe_op (op_addA K) (pv 1) pe_int) pa_nil))) pa_nil)) (pg_name (i := 3) sc_law_family.nd rfl (Or.inl rfl))
   (pss_cons (ps_set (i := 4) sc_law_family.nd rfl (Or.inl rfl) (pe_op (op_addA K) (pe_op (op_addA K) (pe_cA c_law_of hr (by omega) rfl (pa_cons (pv 0) (pa_cons pe_str pa_nil))) (pe_cA c_law_word hr (by omega) rfl (pa_cons (pv 0) (pa_cons pe_int pa_nil)))) (pe_ix (ix_A K) pe_str (pv 3) (fun _ _ => rfl))))
  (pss_one (ps_dput (hu_of hr) (pv 2) (pv 4) (pe_cA c_law_of hr (by omega) rfl (pa_cons (pv 0) (pa_cons (pe_callTy (call_listDA rfl) rfl B.list (by decide +kernel) (pa_cons (pv 2) pa_nil)) pa_nil))) rfl))))
  (pss_one (ps_ret (pv 2))))), ?_⟩
    walk_at "rd"
    refine fun D hD => ⟨upd_same, kvs4, rfl, by decide, ?_⟩
    have r1 : Drw b n H (upd (upd H D (.dK [])) D (.dK (mergeK [] kvs4))) := by rw [upd_upd]; exact (hb.new hD).1
    have hDv : upd (upd H D (.dK [])) D (.dK (mergeK [] kvs4)) D = some (.dK (mergeK [] kvs4)) := upd_same
    generalize upd (upd H D (HO.dK [])) D (.dK (mergeK [] kvs4)) = H1 at r1 hDv ⊢
    have nDb : D ≠ b := fun e => by rw [e] at hD; exact hb.some hD
    have hk4 : (mergeK [] kvs4).map (·.1) = names4.map Sum.inr := by decide +kernel
    walk_at "rd"
    refine ⟨b, _, n, rfl, r1.bag, by omega, by omega, by omega, fun t H2 ht0 ht1 r2 => ?_⟩
    have hD2 : hid b H2 D = some (.dK (mergeK [] kvs4)) := r2.ex _ _ (hid_of hDv nDb)
    replace r2 := r1.trans r2
    refine ⟨_, rfl, by omega, by omega, for_range (lo := 0) (n := t.toNat) (fun i σ H' => ∃ (kvs : List (Key × V)) (zs : List Str) (w3 w4 : Option V), σ = [some (.ref b), some (.int (m : Nat)), some (.ref D), w3, w4] ∧ hid b H' D = some (.dK kvs) ∧ kvs.map (·.1) = zs.map Sum.inr ∧ (∀ z ∈ zs, ClsN z) ∧ 0 < zs.length ∧ zs.length ≤ 4 + i ∧ Drw b (n + 1 + 10 * i) H H') ?_ ?_ ?_⟩
    · exact ⟨_, names4, _, _, rfl, hD2, hk4, fun z hz => fam_nil.cl z (List.mem_append_left _ hz), by decide, Nat.le_refl _, r2.mono (by omega)⟩
    · rintro i σ H3 hi ⟨kvs, zs, w3, w4, rfl, hD3, hk, hcl, h0, h1, r3⟩
      have hi10 : i < 11 := by omega
      walk_at "rd"
      refine ⟨b, _, _, rfl, r3.bag, by omega, .inr ⟨_, rfl, by decide +kernel, by decide +kernel, fun c hc H4 r4 => ?_⟩⟩
      walk_at "rd"
      refine ⟨b, 3, _, rfl, r4.bag, by omega, by omega, fun z H5 hz r5 => ?_⟩
      have hzl := hz.1
      refine r_addS (by rw [sizeLine_eq]; show 1 + _ ≤ _; omega) ?_
      walk_at "rd"
      rw [Int.zero_add]
      refine r_ixS (by decide +kernel) (atI_nat (caps_at (by omega))) ?_
      have hl1 : ((⟨#[c]⟩ : Str) ++ z).length = 1 + z.length := by rw [len_app]; rfl
      refine r_addS (by rw [sizeLine_eq, hl1]; show _ + 1 ≤ _; omega) ?_
      have hcn : ClsN ((⟨#[c]⟩ : Str) ++ z ++ (⟨#[i + 65]⟩ : Str)) := by
        refine ⟨c, z.cps.toList ++ [i + 65], ?_, caps_ok hc, fun x hx => ?_, ?_⟩
        · show tl _ = _
          rw [tl_app, tl_app]
          rfl
        · rcases List.mem_append.mp hx with hx | hx
          · exact .inl (hz.2 x hx)
          · rw [List.mem_singleton.mp hx]
            exact .inr ⟨by omega, by omega⟩
        · rw [List.length_append, List.length_singleton]
          have : z.cps.toList.length = z.length := by simp [Str.length]
          omega
      generalize (⟨#[c]⟩ : Str) ++ z ++ (⟨#[i + 65]⟩ : Str) = nm at hcn ⊢
      have hD5 := r5.ex _ _ (r4.ex _ _ hD3)
      replace r5 := (r3.trans r4).trans r5
      walk_at "rd"
      refine ⟨D, kvs, rfl, .inl (hid_get hD5), fun p hp => ?_⟩
      obtain ⟨r6, hp6⟩ := r5.bag.new (o := .lst (kvs.map fun kv => kV kv.1)) hp
      have hD6 := r6.ex _ _ hD5
      replace r6 := r5.trans r6
      have hkl : kvs.length = zs.length := by
        have := congrArg List.length hk
        rwa [List.length_map, List.length_map] at this
      generalize upd H5 p _ = H6 at r6 hp6 hD6 ⊢
      walk_at "rd"
      refine ⟨b, _, _, rfl, r6.bag, by omega, .inl ⟨p, _, rfl, .inl (SqL.of hp6), by rw [List.length_map]; omega, by rw [List.length_map]; omega, fun y hy H7 r7 => ?_⟩⟩
      have hD7 := r7.ex _ _ hD6
      replace r7 := r6.trans r7
      walk_at "rd"
      refine ⟨D, _, rfl, DPut.k (k := Sum.inr nm) (hid_get hD7) (by rw [sizeLine_eq]; omega), ?_⟩
      obtain ⟨ys, hy1, hy2, hy3, hy4⟩ := put_keys (z := nm) (v := y) hk
      refine ⟨_, ys, _, _, rfl, hid_of upd_same nDb, hy1, fun q hq => ?_, by omega, by omega, (Drw.put r7 (hid_none hD) nDb).mono (by omega)⟩
      rcases hy2 q hq with h | rfl
      · exact hcl q h
      · exact hcn
    · rintro σ H3 ⟨kvs, zs, w3, w4, rfl, hD3, hk, hcl, h0, h1, r3⟩
      walk_at "rd"
      exact k D kvs zs _ hD hD3 hk hcl h0 (by omega) (r3.mono (by omega))
end

end WP

set_option Elab.async false
set_option linter.all false
set_option maxRecDepth 100000
set_option maxHeartbeats 4000000
namespace WP
open PySem PySem.Spec PyProof.Rows L2
local macro_rules | `(tactic| walk_at "rd") => `(tactic| repeat (first
  | with_reducible refine r_seq ?_ | with_reducible refine r_fld ?_ | with_reducible refine r_fldS ?_ | with_reducible refine r_meth ?_ | with_reducible refine r_methX ?_ | with_reducible refine r_make ?_ | with_reducible refine r_makeS ?_ | with_reducible refine r_makeKS ?_ | with_reducible refine r_dcA ?_ | with_reducible refine r_addOS ?_ | with_reducible refine r_dgetT ?_ | with_reducible refine r_dputT ?_ | with_reducible refine r_dget2T ?_ | with_reducible refine r_starT ?_ | with_reducible refine r_statT ?_ | with_reducible refine r_par3 ?_ | with_reducible refine r_callR ?_ | with_reducible refine r_callS ?_ | with_reducible refine r_mkO ?_ | with_reducible refine r_raise ?_ | with_reducible refine r_callW ?_ | with_reducible refine r_tru ?_ | with_reducible refine r_var rfl ?_ | with_reducible refine r_c ?_ | with_reducible refine r_op ?_ | with_reducible refine r_cons ?_ | with_reducible refine r_nil ?_
  | with_reducible refine r_cb ?_ | with_reducible refine r_call ?_ | with_reducible refine r_test ?_ | with_reducible refine r_B ?_ | with_reducible refine r_bl ?_ | with_reducible refine r_asg ?_ | with_reducible refine r_asgS ?_
  | with_reducible refine r_ret ?_ | with_reducible refine r_drop ?_ | with_reducible refine r_ifS ?_ | with_reducible refine r_if ?_ | with_reducible refine r_and ?_ | with_reducible refine r_or ?_ | with_reducible refine r_not ?_
  | with_reducible refine r_andV ?_ | with_reducible refine r_orV ?_ | with_reducible refine r_notV ?_ | with_reducible refine r_chain ?_ | with_reducible refine r_sl ?_ | with_reducible refine r_nopart ?_ | with_reducible refine r_part ?_ | with_reducible refine r_partN ?_ | with_reducible refine r_xv ?_ | with_reducible refine r_xo ?_ | with_reducible refine r_mkV ?_ | with_reducible refine r_forG ?_ | with_reducible refine r_listG ?_ | with_reducible refine r_methG ?_
  | with_reducible refine r_intO ?_ | with_reducible refine r_two ?_ | with_reducible refine r_m1 ?_ | with_reducible refine r_bm ?_ | with_reducible refine r_next ?_ | with_reducible refine r_gCons ?_ | with_reducible refine r_gNil ?_ | with_reducible refine r_asgT ?_ | with_reducible refine r_for ?_ | with_reducible refine r_rng1 ?_ | with_reducible refine r_iList ?_ | with_reducible refine r_iAny ?_ | with_reducible refine r_lc ?_ | with_reducible refine r_yes ?_ | with_reducible refine r_gN ?_ | with_reducible refine r_par ?_ | with_reducible refine r_un ?_ | with_reducible refine r_brk ?_ | with_reducible refine r_cont ?_
  | with_reducible refine r_I0 ?_ | with_reducible refine r_U ?_ | with_reducible refine r_addI ?_ | with_reducible refine r_abs ?_ | with_reducible refine r_intI ?_ | with_reducible refine r_max2 ?_ | with_reducible refine r_min2 ?_
  | with_reducible refine r_ltI ?_ | with_reducible refine r_leI ?_ | with_reducible refine r_gtI ?_ | with_reducible refine r_geI ?_ | with_reducible refine r_isN_non ?_ | with_reducible refine r_isN_int ?_ | with_reducible refine r_isN_str ?_ | with_reducible refine r_isN_bl ?_ | with_reducible refine r_isN_ref ?_ | with_reducible refine r_isN ?_ | with_reducible refine r_isB ?_ | with_reducible refine r_isnotN_non ?_ | with_reducible refine r_isnotN_int ?_ | with_reducible refine r_isnotN_str ?_ | with_reducible refine r_isnotN_bl ?_ | with_reducible refine r_isnotN_ref ?_ | with_reducible refine r_isnotN ?_ | with_reducible refine r_isnotB ?_
  | with_reducible refine r_inS ?_ | with_reducible refine r_eqS rfl ?_ | with_reducible refine r_neS rfl ?_ | with_reducible refine r_lst ?_ | with_reducible refine r_tup ?_ | with_reducible refine iteT ?_ | with_reducible refine iteF ?_))
local macro_rules | `(tactic| walk_at "isi") => `(tactic| (first
  | with_reducible refine r_isi_non_int ?_
  | with_reducible refine r_isi_non_str ?_
  | with_reducible refine r_isi_non_list ?_
  | with_reducible refine r_isi_non_tuple ?_
  | with_reducible refine r_isi_non_bool ?_
  | with_reducible refine r_isi_bl_int ?_
  | with_reducible refine r_isi_bl_str ?_
  | with_reducible refine r_isi_bl_list ?_
  | with_reducible refine r_isi_bl_tuple ?_
  | with_reducible refine r_isi_bl_bool ?_
  | with_reducible refine r_isi_int_int ?_
  | with_reducible refine r_isi_int_str ?_
  | with_reducible refine r_isi_int_list ?_
  | with_reducible refine r_isi_int_tuple ?_
  | with_reducible refine r_isi_int_bool ?_
  | with_reducible refine r_isi_str_int ?_
  | with_reducible refine r_isi_str_str ?_
  | with_reducible refine r_isi_str_list ?_
  | with_reducible refine r_isi_str_tuple ?_
  | with_reducible refine r_isi_str_bool ?_
  | with_reducible refine r_isi_lst_int (SqL.of (by assumption)) ?_
  | with_reducible refine r_isi_lst_str (SqL.of (by assumption)) ?_
  | with_reducible refine r_isi_lst_list (SqL.of (by assumption)) ?_
  | with_reducible refine r_isi_lst_tuple (SqL.of (by assumption)) ?_
  | with_reducible refine r_isi_lst_bool (SqL.of (by assumption)) ?_
  | with_reducible refine r_isi_tup_int (SqT.of (by assumption)) ?_
  | with_reducible refine r_isi_tup_str (SqT.of (by assumption)) ?_
  | with_reducible refine r_isi_tup_list (SqT.of (by assumption)) ?_
  | with_reducible refine r_isi_tup_tuple (SqT.of (by assumption)) ?_
  | with_reducible refine r_isi_tup_bool (SqT.of (by assumption)) ?_))
local macro_rules | `(tactic| walk_at "rs") => `(tactic| (first
  | ((with_reducible refine iteTc ?hc ?_); (case hc => rfl)) | ((with_reducible refine iteFc ?hc ?_); (case hc => rfl))
  | walk_at "isi"
  | refine r_ixL (SqL.of (by assumption)) rfl ?_ | refine r_ixL (SqL.of upd_same) rfl ?_
  | refine r_I (C := fun _ j => 0 < j) (by first | decide | assumption | omega) ?_
  | refine r_mulI (.inl ⟨by decide, by decide⟩) ?_ | refine r_mulI (.inr ⟨by decide, by decide⟩) ?_ | refine r_mulI (.inr ⟨by omega, by omega⟩) ?_ | refine r_mulI (.inl ⟨by omega, by omega⟩) ?_
  | refine r_I (wide_div (b := 64) (by decide) (by decide) (by decide) (by decide)) ?_
  | refine r_I (C := CPow) ⟨by decide, by decide, by decide⟩ ?_
  | refine r_setL (by assumption) rfl ?_ | refine r_setL upd_same rfl ?_))
local macro_rules | `(tactic| walk_at "rx") => `(tactic| (walk_at "rd"; (repeat (walk_at "rs"; walk_at "rd"))))

abbrev N_law_core : List Str := ["_law_bag_here", "_law_calls", "_law_flags", "_law_classes", "_law_numbers", "_law_texts", "_law_turn", "_law_value", "_law_names", "_law_k", "_law_words", "_law_parents"]
theorem sc_law_core : FnScope N_law_core ["_law_bag_here", "_law_calls", "_law_flags", "_law_classes"] (defScope s_law_core) := ⟨rfl, rfl, rfl, by decide +kernel, rfl, by decide +kernel, by decide +kernel⟩
/-- the law's kit: numbers, words, class names -/
def KitAt (G : Hp) (D : Addr) : Prop := ∃ (kvs : List (Key × V)) (Ln Lw Lc : Addr) (ns : List Int) (ws cs : List Str), G D = some (.dK kvs) ∧ valV kvs (Sum.inr "numbers") = some (.ref Ln) ∧ valV kvs (Sum.inr "words") = some (.ref Lw) ∧ valV kvs (Sum.inr "classes") = some (.ref Lc) ∧
  (G Ln = some (.lst (ns.map V.int)) ∧ 0 < ns.length ∧ ns.length ≤ 10 ∧ ∀ i ∈ ns, i.natAbs < 10 ^ 30) ∧ (G Lw = some (.lst (ws.map V.str)) ∧ ws.length ≤ 10 ∧ ∀ z ∈ ws, Word 8 z) ∧ G Lc = some (.lst (cs.map V.str)) ∧ 0 < cs.length ∧ cs.length ≤ 14 ∧ ∀ z ∈ cs, ClsN z
theorem KitAt.mono {G G' : Hp} {D : Addr} (e : Evl.Ex G G') (h : KitAt G D) : KitAt G' D := by
  obtain ⟨kvs, Ln, Lw, Lc, ns, ws, cs, h1, h2, h3, h4, ⟨h5, h6⟩, ⟨h7, h8⟩, h9, h10⟩ := h
  exact ⟨kvs, Ln, Lw, Lc, ns, ws, cs, e _ _ h1, h2, h3, h4, ⟨e _ _ h5, h6⟩, ⟨e _ _ h7, h8⟩, e _ _ h9, h10⟩
def spCore : Sp := fun vs H Q _ => ∃ (b : Addr) (n : Nat), vs = [.ref b, .int 1, .int 1, .int 2] ∧ Bag b n H ∧ n + 1000 < 1000000000000 ∧ ∀ (D : Addr) (H' : Hp), KitAt (hid b H') D → Drw b (n + 1000) H H' → Q (.ref D) H'
section
variable {P : Program} {w : World} {K : PySem.W.Frag} {mg : Str → Option Value} {base : Heap}
theorem r_pairs {tk tv : TE} {r : List (TE × TE)} {σ : L2.St} {H : Hp} {Q : List (V × V) → Hp → Prop} (q : tk σ H fun x H1 => tv σ H1 fun y H2 => tPairs r σ H2 fun ps H3 => Q ((x, y) :: ps) H3) : tPairs ((tk, tv) :: r) σ H Q := q
theorem r_pairs0 {σ : L2.St} {H : Hp} {Q : List (V × V) → Hp → Prop} (q : Q [] H) : tPairs [] σ H Q := q
def kitKvs (Lt Ln Lw Lf Dp Lc : Addr) : List (Key × V) := [(Sum.inr "texts", .ref Lt), (Sum.inr "numbers", .ref Ln), (Sum.inr "words", .ref Lw), (Sum.inr "flags", .ref Lf), (Sum.inr "parts", .int 3), (Sum.inr "loops", .int 2), (Sum.inr "parents", .ref Dp), (Sum.inr "classes", .ref Lc)]
theorem kit_n {Lt Ln Lw Lf Dp Lc : Addr} : valV (mergeK [] (kitKvs Lt Ln Lw Lf Dp Lc)) (Sum.inr "numbers") = some (.ref Ln) := rfl
theorem kit_w {Lt Ln Lw Lf Dp Lc : Addr} : valV (mergeK [] (kitKvs Lt Ln Lw Lf Dp Lc)) (Sum.inr "words") = some (.ref Lw) := rfl
theorem kit_c {Lt Ln Lw Lf Dp Lc : Addr} : valV (mergeK [] (kitKvs Lt Ln Lw Lf Dp Lc)) (Sum.inr "classes") = some (.ref Lc) := rfl
theorem cst_slen {v : V} (h : Cst v) : (cstS v).length ≤ 40 := by
  have := cst_len h
  unfold cstL at this
  rwa [tl_length] at this
theorem c_core (F : At K mg "_law_core" s_law_core) (B : Bl mg) (c_law_take : Cal P w K mg base 1 "_law_take" spTake) (c_law_of : Cal P w K mg base 2 "_law_of" (spOf K)) (c_law_word : Cal P w K mg base 3 "_law_word" spWord) (c_law_number : Cal P w K mg base 3 "_law_number" spNumber)
    (c_law_written : Cal P w K mg base 2 "_law_written" spWritten) (c_law_name : Cal P w K mg base 4 "_law_name" spLName) (c_law_family : Cal P w K mg base 4 "_law_family" spLFam) : Cal P w K mg base 5 "_law_core" spCore := by
  refine cal_of F sc_law_core (fun vs H Q E h => ?_) (fun _ _ _ _ _ _ us hl => match us, hl with | [_, _, _, _], _ => rfl) (fun f cdv A outer s H vs Q E hr h => ?_)
  · obtain ⟨b, n, rfl, _⟩ := h
    rfl
  · obtain ⟨b, n, rfl, hb, hn, k⟩ := h
    refine ⟨_, (pss_cons (ps_par (i := 4) (j := 5) (by rfl) sc_law_core.nd rfl rfl (by decide) rfl rfl (pa_cons (pe_lst (pa_cons pe_int pa_nil)) (pa_cons (pe_lst pa_nil) pa_nil)) (by rfl))
  (pss_cons (ps_for PassesOwn.never rfl (pi_range1 rfl B.range (pa_cons (pe_op (op_addA K) pe_int (pe_cA c_law_take hr (by omega) rfl (pa_cons (pv 0) (pa_cons pe_int pa_nil)))) pa_nil)) (pg_name (i := 6) sc_law_core.nd rfl (Or.inl rfl))
   (pss_one (ps_expr (pe_appendA K (pe_bm PySem.F.plainAttrs_list PySem.F.slot_list_append PySem.F.type_list_append mt_append (pv 4) (pa_cons (pe_cA c_law_number hr (by omega) rfl (pa_cons (pv 0) (pa_cons (pv 4) pa_nil))) pa_nil))))))
  (pss_cons (ps_for PassesOwn.never rfl (pi_range1 rfl B.range (pa_cons (pe_op (op_addA K) pe_int (pe_cA c_law_take hr (by omega) rfl (pa_cons (pv 0) (pa_cons (pv 1) pa_nil)))) pa_nil)) (pg_name (i := 6) sc_law_core.nd rfl (Or.inl rfl))
   (pss_cons (ps_set (i := 7) sc_law_core.nd rfl (Or.inl rfl) (pe_cA c_law_written hr (by omega) rfl (pa_cons (pe_cA c_law_of hr (by omega) rfl (pa_cons (pv 0) (pa_cons (pe_lst (pa_cons pe_non (pa_cons pe_int (pa_cons (pe_cA c_law_number hr (by omega) rfl (pa_cons (pv 0) (pa_cons (pe_lst pa_nil) pa_nil))) pa_nil)))) pa_nil))) pa_nil)))
  (pss_one (ps_expr (pe_appendA K (pe_bm PySem.F.plainAttrs_list PySem.F.slot_list_append PySem.F.type_list_append mt_append (pv 5) (pa_cons (pe_op (op_addA K) (pe_op (op_addA K) (pe_op (op_addA K) (pe_op (op_addA K) (pe_cA c_law_name hr (by omega) rfl (pa_cons (pv 0) pa_nil)) (pe_ix (ix_A K) pe_str (pv 6) (fun _ _ => rfl))) pe_str) (pv 7)) pe_str) pa_nil)))))))
  (pss_cons (ps_setLc (i := 8) (own := [("_law_k", 9)]) rfl sc_law_core.nd rfl rfl (sw_true rfl rfl rfl (by decide +kernel)) (pi_range1 rfl B.range (pa_cons (pe_op (op_addA K) pe_int (pe_cA c_law_take hr (by omega) rfl (pa_cons (pv 0) (pa_cons (pv 2) pa_nil)))) pa_nil)) (blkOk_by (N := N_law_core) (sc := defScope s_law_core) (by decide +kernel)) (fun _ _ _ _ _ => (pg_name (i := 9) sc_law_core.nd rfl (Or.inl rfl))) (fun _ _ _ _ _ => pts_nil) (fun _ _ _ _ _ => (pe_op (op_addA K) (pe_cA c_law_name hr (by omega) rfl (pa_cons (pv 0) pa_nil)) (pe_ix (ix_A K) pe_str (pv 9) (fun _ _ => rfl)))))
  (pss_cons (ps_par (i := 10) (j := 11) (by rfl) sc_law_core.nd rfl rfl (by decide) rfl rfl (pa_cons (pe_lst (pa_cons pe_str (pa_cons (pe_cA c_law_word hr (by omega) rfl (pa_cons (pv 0) (pa_cons pe_int pa_nil))) pa_nil))) (pa_cons (pe_cA c_law_family hr (by omega) rfl (pa_cons (pv 0) (pa_cons (pv 3) pa_nil))) pa_nil)) (by rfl))
  (pss_one (ps_ret (pe_disp (pps_cons pe_str (pv 5) (pps_cons pe_str (pv 4) (pps_cons pe_str (pv 10) (pps_cons pe_str (pv 8) (pps_cons pe_str pe_int (pps_cons pe_str pe_int (pps_cons pe_str (pv 11) (pps_cons pe_str (pe_callTy (call_listDA rfl) rfl B.list (by decide +kernel) (pa_cons (pv 11) pa_nil)) pps_nil)))))))) (by rfl) (by rfl) (fun z => by cases z) (by decide))))))))), ?_⟩
    walk_at "rd"
    refine ⟨by show 1 ≤ sizeLine; decide, fun Ln hLn => ?_⟩
    obtain ⟨r1, hN1⟩ := hb.new (o := .lst [.int 0]) hLn
    walk_at "rd"
    refine ⟨by show 0 ≤ sizeLine; decide, fun Lt hLt => ?_⟩
    obtain ⟨r2, hT2⟩ := r1.bag.new (o := .lst []) hLt
    have hN2 := r2.ex _ _ hN1
    have nTN : Lt ≠ Ln := fun e => by rw [e, upd_same] at hLt; cases hLt
    have hLt0 : H Lt = none := by rw [upd_ne nTN] at hLt; exact hLt
    replace r2 := r1.trans r2
    generalize upd (upd H Ln _) Lt _ = H2 at r2 hN2 hT2 ⊢
    clear r1 hN1 hLt
    have nNb := hid_ne hN2
    have nTb := hid_ne hT2
    walk_at "rd"
    refine ⟨b, _, _, rfl, r2.bag, by omega, by decide, by decide, fun t H3 ht0 ht1 r3 => ?_⟩
    replace hN2 := r3.ex _ _ hN2
    replace hT2 := r3.ex _ _ hT2
    replace r3 := r2.trans r3
    walk_at "rd"
    refine ⟨_, rfl, by omega, by omega, for_range (lo := 0) (n := (1 + t).toNat) (fun i σ H' => ∃ (ns : List Int) (w6 w7 w8 w9 w10 w11 : Option V), σ = [some (.ref b), some (.int 1), some (.int 1), some (.int 2), some (.ref Ln), some (.ref Lt), w6, w7, w8, w9, w10, w11] ∧ hid b H' Ln = some (.lst (ns.map V.int)) ∧ ns.length = 1 + i ∧ (∀ j ∈ ns, j.natAbs < 10 ^ 30) ∧ hid b H' Lt = some (.lst []) ∧ Drw b (n + 1 + 10 * i) H H') ?_ ?_ ?_⟩
    · exact ⟨[0], _, _, _, _, _, _, rfl, hN2, rfl, fun j hj => by rw [List.mem_singleton.mp hj]; decide, hT2, r3.mono (by omega)⟩
    · rintro i σ H4 hi ⟨ns, w6, w7, w8, w9, w10, w11, rfl, hN4, hl4, hb4, hT4, r4⟩
      walk_at "rd"
      refine r_tyL (SqL.of (hid_get hN4)) ?_
      walk_at "rd"
      refine ⟨b, Ln, _, ns, rfl, r4.bag, by omega, hN4, by omega, fun r H5 hr5 r5 => ?_⟩
      have hN5 := r5.ex _ _ hN4
      have hT5 := r5.ex _ _ hT4
      replace r5 := r4.trans r5
      walk_at "rd"
      refine r_app (hid_get hN5) (by rw [List.length_map, sizeLine_eq]; omega) ?_
      refine ⟨ns ++ [r], _, _, _, _, _, _, rfl, hid_of (by rw [upd_same, List.map_append]; rfl) nNb, by rw [List.length_append, List.length_singleton]; omega, fun j hj => ?_, hid_of (by rw [upd_ne nTN]; exact hid_get hT5) nTb, (Drw.put r5 (hid_none hLn) nNb).mono (by omega)⟩
      rcases List.mem_append.mp hj with hj | hj
      · exact hb4 j hj
      · rw [List.mem_singleton.mp hj]; exact hr5
    · rintro σ H4 ⟨ns, w6, w7, w8, w9, w10, w11, rfl, hN4, hl4, hb4, hT4, r4⟩
      walk_at "rd"
      refine ⟨b, _, _, rfl, r4.bag, by omega, by decide, by decide, fun t2 H5 ht20 ht21 r5 => ?_⟩
      have hN5 := r5.ex _ _ hN4
      have hT5 := r5.ex _ _ hT4
      replace r5 := r4.trans r5
      walk_at "rd"
      refine ⟨_, rfl, by omega, by omega, for_range (lo := 0) (n := (1 + t2).toNat) (fun i σ H' => ∃ (ts : List V) (w6 w7 w8 w9 w10 w11 : Option V), σ = [some (.ref b), some (.int 1), some (.int 1), some (.int 2), some (.ref Ln), some (.ref Lt), w6, w7, w8, w9, w10, w11] ∧ hid b H' Ln = some (.lst (ns.map V.int)) ∧ hid b H' Lt = some (.lst ts) ∧ ts.length = i ∧ Drw b (n + 100 + 50 * i) H H') ?_ ?_ ?_⟩
      · exact ⟨[], _, _, _, _, _, _, rfl, hN5, hT5, rfl, r5.mono (by omega)⟩
      · rintro i σ H6 hi ⟨ts, v6, v7, v8, v9, v10, v11, rfl, hN6, hT6, hl6, r6⟩
        walk_at "rd"
        refine ⟨by show 0 ≤ sizeLine; decide, fun p hp => ?_⟩
        obtain ⟨r7, hp7⟩ := r6.bag.new (o := .lst []) hp
        refine ⟨b, p, _, [], rfl, r7.bag, by omega, hp7, by show 0 ≤ 1000; omega, fun r H8 hr8 r8 => ?_⟩
        have hN7 := r7.ex _ _ hN6
        have hT7 := r7.ex _ _ hT6
        have r8' := r8
        replace r8 := (r6.trans r7).trans r8
        refine ⟨by show 3 ≤ sizeLine; decide, fun p9 hp9 => ?_⟩
        obtain ⟨r9, hp9'⟩ := r8.bag.new (o := .lst [.non, .int 1, .int r]) hp9
        refine ⟨b, _, _, rfl, r9.bag, by omega, .inl ⟨p9, _, rfl, .inl (SqL.of hp9'), by show 0 < 3; omega, by show 3 ≤ 100000; omega, fun y hy H10 r10 => ?_⟩⟩
        have hT10 := r10.ex _ _ (r9.ex _ _ (r8'.ex _ _ hT7))
        have hN10 := r10.ex _ _ (r9.ex _ _ (r8'.ex _ _ hN7))
        replace r10 := (r8.trans r9).trans r10
        have hy' : Cst y := by
          simp only [List.mem_cons, List.not_mem_nil, or_false] at hy
          rcases hy with rfl | rfl | rfl
          · trivial
          · show (1 : Int).natAbs < 10 ^ 30
            decide
          · exact hr8
        have hyl := cst_slen hy'
        walk_at "rd"
        refine ⟨y, rfl, hy', ?_⟩
        walk_at "rd"
        refine r_tyL (SqL.of (hid_get hT10)) ?_
        walk_at "rd"
        refine ⟨b, _, rfl, r10.bag, by omega, fun z H11 hz r11 => ?_⟩
        have hT11 := r11.ex _ _ hT10
        have hN11 := r11.ex _ _ hN10
        replace r11 := r10.trans r11
        walk_at "rd"
        have hi1 : i < 1 + 1 := by omega
        obtain ⟨c, hc⟩ : ∃ c, ("abcd" : Str).cps.toList[i]? = some c := ⟨_, List.getElem?_eq_getElem (by show i < 4; omega)⟩
        rw [Int.zero_add]
        refine r_ixS (by decide +kernel) (atI_nat hc) ?_
        refine r_addS (by rw [sizeLine_eq]; show _ + 1 ≤ _; omega) ?_
        walk_at "rd"
        have e1 : (z ++ (⟨#[c]⟩ : Str)).length = z.length + 1 := by rw [len_app]; rfl
        refine r_addS (by rw [sizeLine_eq, e1]; show _ + 1 ≤ _; omega) ?_
        walk_at "rd"
        have e2 : (z ++ (⟨#[c]⟩ : Str) ++ ("(" : Str)).length = z.length + 2 := by rw [len_app, e1]; rfl
        refine r_addS (by rw [sizeLine_eq, e2]; omega) ?_
        walk_at "rd"
        refine r_addS (by rw [sizeLine_eq, len_app, e2]; show _ + 1 ≤ _; omega) ?_
        walk_at "rd"
        refine r_app (hid_get hT11) (by rw [sizeLine_eq]; omega) ?_
        exact ⟨_, _, _, _, _, _, _, rfl, hid_of (by rw [upd_ne nTN.symm]; exact hid_get hN11) nNb, hid_of upd_same nTb, by rw [List.length_append, List.length_singleton, hl6], (Drw.put r11 (hid_none hLt0) nTb).mono (by omega)⟩
      · rintro σ H6 ⟨ts, v6, v7, v8, v9, v10, v11, rfl, hN6, hT6, hl6, r6⟩
        walk_at "rd"
        refine ⟨b, _, _, rfl, r6.bag, by omega, by decide, by decide, fun t3 H7 ht30 ht31 r7 => ?_⟩
        have hN7 := r7.ex _ _ hN6
        have hT7 := r7.ex _ _ hT6
        replace r7 := r6.trans r7
        walk_at "rd"
        refine ⟨_, rfl, by omega, by omega, fun Lf hLf => ?_⟩
        refine lc_draw (m := (1 + t3).toNat) (c := 20) hLf r7.bag (by omega) (fun _ _ => True) (fun _ _ _ _ h => h) ?_ ?_ ?_
        · exact fun _ => rfl
        · intro i H8 hi r8 Q' q
          walk_at "rd"
          refine ⟨b, _, rfl, r8.bag, by omega, fun z H9 hz r9 => ?_⟩
          walk_at "rd"
          obtain ⟨c, hc⟩ : ∃ c, ("uvw" : Str).cps.toList[i]? = some c := ⟨_, List.getElem?_eq_getElem (by show i < 3; omega)⟩
          rw [Int.zero_add]
          refine r_ixS (by decide +kernel) (atI_nat hc) ?_
          refine r_addS (by rw [sizeLine_eq]; show _ + 1 ≤ _; omega) ?_
          exact q _ _ trivial r9
        · intro H8 fs hfl _ hLf8 nLfb r8
          have hN8 := r8.ex _ _ hN7
          have hT8 := r8.ex _ _ hT7
          have hF8 := hid_of hLf8 nLfb
          replace r8 := r7.trans r8
          walk_at "rd"
          refine ⟨b, 8, _, rfl, r8.bag, by omega, by omega, fun z H9 hz r9 => ?_⟩
          have hN9 := r9.ex _ _ hN8
          have hT9 := r9.ex _ _ hT8
          replace r9 := r8.trans r9
          walk_at "rd"
          refine ⟨by show 2 ≤ sizeLine; decide, fun Lw hLw => ?_⟩
          obtain ⟨r10, hW10⟩ := r9.bag.new (o := .lst [.str "", .str z]) hLw
          have hN10 := r10.ex _ _ hN9
          replace r10 := r9.trans r10
          generalize upd H9 Lw _ = H10 at r10 hW10 hN10 ⊢
          walk_at "rd"
          refine ⟨b, _, 2, rfl, r10.bag, by omega, by omega, fun Dp kvs zs H11 _ hP11 hk hcl h0 h14 r11 => ?_⟩
          have hN11 := r11.ex _ _ hN10
          have hW11 := r11.ex _ _ hW10
          replace r11 := r10.trans r11
          refine ⟨_, _, rfl, ?_⟩
          walk_at "rd"
          intro D hD
          obtain ⟨r12, hD12⟩ := r11.bag.new (o := .dK []) hD
          have nDb := hid_ne hD12
          have hN12 := r12.ex _ _ hN11
          have hW12 := r12.ex _ _ hW11
          have hP12 := r12.ex _ _ hP11
          have hkl : kvs.length = zs.length := by
            have := congrArg List.length hk
            rwa [List.length_map, List.length_map] at this
          have hDe : upd H11 D (.dK []) D = some (.dK []) := upd_same
          replace r12 := r11.trans r12
          generalize upd H11 D _ = H12 at r12 hDe hN12 hW12 hP12 hD12 ⊢
          refine r_pairs (r_c (r_var rfl (r_pairs (r_c (r_var rfl (r_pairs (r_c (r_var rfl (r_pairs (r_c (r_var rfl (r_pairs (r_c (r_c (r_pairs (r_c (r_c (r_pairs (r_c (r_var rfl (r_pairs (r_c ?_))))))))))))))))))))))
          walk_at "rd"
          refine ⟨Dp, kvs, rfl, .inl (hid_get hP12), fun Lc hLc => ?_⟩
          obtain ⟨r13, hC13⟩ := r12.bag.new (o := .lst (kvs.map fun kv => kV kv.1)) hLc
          have nDc : D ≠ Lc := fun e => by rw [← e, hDe] at hLc; cases hLc
          have nND : Ln ≠ D := fun e => by rw [e] at hN11; rw [hid_get hN11] at hD; cases hD
          have nWD : Lw ≠ D := fun e => by rw [e] at hW11; rw [hid_get hW11] at hD; cases hD
          have hN13 := r13.ex _ _ hN12
          have hW13 := r13.ex _ _ hW12
          have r13' := r13
          replace r13 := r12.trans r13
          have hc : (kvs.map fun kv => kV kv.1) = zs.map V.str := by
            have := congrArg (List.map kV) hk
            rw [List.map_map, List.map_map] at this
            exact this
          rw [hc] at r13 r13' hC13 hN13 hW13 ⊢
          generalize upd H12 Lc _ = H13 at r13 r13' hC13 hN13 hW13 ⊢
          refine r_pairs0 ⟨?_, kitKvs Lt Ln Lw Lf Dp Lc, rfl, by show 8 ≤ 15; omega, ?_⟩
          · exact hid_get (r13'.ex _ _ hD12)
          · have hd0 : hid b H D = none := by
              cases e : hid b H D with
              | none => rfl
              | some o => rw [hid_get (r11.ex _ _ e)] at hD; cases hD
            refine k D _ ⟨_, Ln, Lw, Lc, ns, ["", z], zs, hid_of upd_same nDb, kit_n, kit_w, kit_c, ⟨?_, by omega, by omega, hb4⟩, ⟨?_, by show 2 ≤ 10; omega, ?_⟩, ?_, h0, h14, hcl⟩ ((Drw.put r13 hd0 nDb).mono (by omega))
            · exact hid_of (by rw [upd_ne nND]; exact hid_get hN13) nNb
            · exact hid_of (by rw [upd_ne nWD]; exact hid_get hW13) (hid_ne hW13)
            · intro y hy
              simp only [List.mem_cons, List.not_mem_nil, or_false] at hy
              rcases hy with rfl | rfl
              · exact ⟨by decide, fun c hc => by cases hc⟩
              · exact hz
            · exact hid_of (by rw [upd_ne nDc.symm]; exact hid_get hC13) (hid_ne hC13)
end

end WP

set_option Elab.async false
set_option linter.all false
set_option maxRecDepth 100000
set_option maxHeartbeats 4000000
namespace WP
open PySem PySem.Spec PyProof.Rows L2
local macro_rules | `(tactic| walk_at "rd") => `(tactic| repeat (first
  | with_reducible refine r_seq ?_ | with_reducible refine r_fld ?_ | with_reducible refine r_fldS ?_ | with_reducible refine r_meth ?_ | with_reducible refine r_methX ?_ | with_reducible refine r_make ?_ | with_reducible refine r_makeS ?_ | with_reducible refine r_makeKS ?_ | with_reducible refine r_dcA ?_ | with_reducible refine r_addOS ?_ | with_reducible refine r_dgetT ?_ | with_reducible refine r_dputT ?_ | with_reducible refine r_dget2T ?_ | with_reducible refine r_starT ?_ | with_reducible refine r_statT ?_ | with_reducible refine r_par3 ?_ | with_reducible refine r_callR ?_ | with_reducible refine r_callS ?_ | with_reducible refine r_mkO ?_ | with_reducible refine r_raise ?_ | with_reducible refine r_callW ?_ | with_reducible refine r_tru ?_ | with_reducible refine r_var rfl ?_ | with_reducible refine r_c ?_ | with_reducible refine r_op ?_ | with_reducible refine r_cons ?_ | with_reducible refine r_nil ?_
  | with_reducible refine r_cb ?_ | with_reducible refine r_call ?_ | with_reducible refine r_test ?_ | with_reducible refine r_B ?_ | with_reducible refine r_bl ?_ | with_reducible refine r_asg ?_ | with_reducible refine r_asgS ?_
  | with_reducible refine r_ret ?_ | with_reducible refine r_drop ?_ | with_reducible refine r_ifS ?_ | with_reducible refine r_if ?_ | with_reducible refine r_and ?_ | with_reducible refine r_or ?_ | with_reducible refine r_not ?_
  | with_reducible refine r_andV ?_ | with_reducible refine r_orV ?_ | with_reducible refine r_notV ?_ | with_reducible refine r_chain ?_ | with_reducible refine r_sl ?_ | with_reducible refine r_nopart ?_ | with_reducible refine r_part ?_ | with_reducible refine r_partN ?_ | with_reducible refine r_xv ?_ | with_reducible refine r_xo ?_ | with_reducible refine r_mkV ?_ | with_reducible refine r_forG ?_ | with_reducible refine r_listG ?_ | with_reducible refine r_methG ?_
  | with_reducible refine r_intO ?_ | with_reducible refine r_two ?_ | with_reducible refine r_m1 ?_ | with_reducible refine r_bm ?_ | with_reducible refine r_next ?_ | with_reducible refine r_gCons ?_ | with_reducible refine r_gNil ?_ | with_reducible refine r_asgT ?_ | with_reducible refine r_for ?_ | with_reducible refine r_rng1 ?_ | with_reducible refine r_iList ?_ | with_reducible refine r_iAny ?_ | with_reducible refine r_lc ?_ | with_reducible refine r_yes ?_ | with_reducible refine r_gN ?_ | with_reducible refine r_par ?_ | with_reducible refine r_un ?_ | with_reducible refine r_brk ?_ | with_reducible refine r_cont ?_
  | with_reducible refine r_I0 ?_ | with_reducible refine r_U ?_ | with_reducible refine r_addI ?_ | with_reducible refine r_abs ?_ | with_reducible refine r_intI ?_ | with_reducible refine r_max2 ?_ | with_reducible refine r_min2 ?_
  | with_reducible refine r_ltI ?_ | with_reducible refine r_leI ?_ | with_reducible refine r_gtI ?_ | with_reducible refine r_geI ?_ | with_reducible refine r_isN_non ?_ | with_reducible refine r_isN_int ?_ | with_reducible refine r_isN_str ?_ | with_reducible refine r_isN_bl ?_ | with_reducible refine r_isN_ref ?_ | with_reducible refine r_isN ?_ | with_reducible refine r_isB ?_ | with_reducible refine r_isnotN_non ?_ | with_reducible refine r_isnotN_int ?_ | with_reducible refine r_isnotN_str ?_ | with_reducible refine r_isnotN_bl ?_ | with_reducible refine r_isnotN_ref ?_ | with_reducible refine r_isnotN ?_ | with_reducible refine r_isnotB ?_
  | with_reducible refine r_inS ?_ | with_reducible refine r_eqS rfl ?_ | with_reducible refine r_neS rfl ?_ | with_reducible refine r_lst ?_ | with_reducible refine r_tup ?_ | with_reducible refine iteT ?_ | with_reducible refine iteF ?_))
local macro_rules | `(tactic| walk_at "isi") => `(tactic| (first
  | with_reducible refine r_isi_non_int ?_
  | with_reducible refine r_isi_non_str ?_
  | with_reducible refine r_isi_non_list ?_
  | with_reducible refine r_isi_non_tuple ?_
  | with_reducible refine r_isi_non_bool ?_
  | with_reducible refine r_isi_bl_int ?_
  | with_reducible refine r_isi_bl_str ?_
  | with_reducible refine r_isi_bl_list ?_
  | with_reducible refine r_isi_bl_tuple ?_
  | with_reducible refine r_isi_bl_bool ?_
  | with_reducible refine r_isi_int_int ?_
  | with_reducible refine r_isi_int_str ?_
  | with_reducible refine r_isi_int_list ?_
  | with_reducible refine r_isi_int_tuple ?_
  | with_reducible refine r_isi_int_bool ?_
  | with_reducible refine r_isi_str_int ?_
  | with_reducible refine r_isi_str_str ?_
  | with_reducible refine r_isi_str_list ?_
  | with_reducible refine r_isi_str_tuple ?_
  | with_reducible refine r_isi_str_bool ?_
  | with_reducible refine r_isi_lst_int (SqL.of (by assumption)) ?_
  | with_reducible refine r_isi_lst_str (SqL.of (by assumption)) ?_
  | with_reducible refine r_isi_lst_list (SqL.of (by assumption)) ?_
  | with_reducible refine r_isi_lst_tuple (SqL.of (by assumption)) ?_
  | with_reducible refine r_isi_lst_bool (SqL.of (by assumption)) ?_
  | with_reducible refine r_isi_tup_int (SqT.of (by assumption)) ?_
  | with_reducible refine r_isi_tup_str (SqT.of (by assumption)) ?_
  | with_reducible refine r_isi_tup_list (SqT.of (by assumption)) ?_
  | with_reducible refine r_isi_tup_tuple (SqT.of (by assumption)) ?_
  | with_reducible refine r_isi_tup_bool (SqT.of (by assumption)) ?_))
local macro_rules | `(tactic| walk_at "rs") => `(tactic| (first
  | ((with_reducible refine iteTc ?hc ?_); (case hc => rfl)) | ((with_reducible refine iteFc ?hc ?_); (case hc => rfl))
  | walk_at "isi"
  | refine r_ixL (SqL.of (by assumption)) rfl ?_ | refine r_ixL (SqL.of upd_same) rfl ?_
  | refine r_I (C := fun _ j => 0 < j) (by first | decide | assumption | omega) ?_
  | refine r_mulI (.inl ⟨by decide, by decide⟩) ?_ | refine r_mulI (.inr ⟨by decide, by decide⟩) ?_ | refine r_mulI (.inr ⟨by omega, by omega⟩) ?_ | refine r_mulI (.inl ⟨by omega, by omega⟩) ?_
  | refine r_I (wide_div (b := 64) (by decide) (by decide) (by decide) (by decide)) ?_
  | refine r_I (C := CPow) ⟨by decide, by decide, by decide⟩ ?_
  | refine r_setL (by assumption) rfl ?_ | refine r_setL upd_same rfl ?_))
local macro_rules | `(tactic| walk_at "rx") => `(tactic| (walk_at "rd"; (repeat (walk_at "rs"; walk_at "rd"))))

abbrev N_law_path : List Str := ["_law_bag_here", "_law_texts", "_law_aged", "_law_turn"]
theorem sc_law_path : FnScope N_law_path ["_law_bag_here", "_law_texts", "_law_aged"] (defScope s_law_path) := ⟨rfl, rfl, rfl, by decide +kernel, rfl, by decide +kernel, by decide +kernel⟩
def spLPath : Sp := fun vs H Q _ => ∃ (b Lt : Addr) (n : Nat) (ts : List Str) (ag : Bool), vs = [.ref b, .ref Lt, .bl ag] ∧ Bag b n H ∧ n + 20 < 1000000000000 ∧ hid b H Lt = some (.lst (ts.map V.str)) ∧ 0 < ts.length ∧ ts.length ≤ 10 ∧
  ∀ (p : Addr) (zs : List Str) (H' : Hp), hid b H' p = some (.tup (zs.map V.str)) → zs ≠ [] → zs.length ≤ 4 → (ag = false → zs.length = 1) → (∀ z ∈ zs, z ∈ ts) → Drw b (n + 20) H H' → Q (.ref p) H'
theorem strs_of {ts : List Str} : ∀ {xs : List V}, (∀ v ∈ xs, ∃ z, v = V.str z ∧ z ∈ ts) → ∃ zs : List Str, xs = zs.map V.str ∧ ∀ z ∈ zs, z ∈ ts
  | [], _ => ⟨[], rfl, fun _ h => by cases h⟩
  | v :: xs, h => by
    obtain ⟨z, rfl, hz⟩ := h v (List.mem_cons_self ..)
    obtain ⟨zs, rfl, hzs⟩ := strs_of (xs := xs) fun u hu => h u (List.mem_cons_of_mem _ hu)
    exact ⟨z :: zs, rfl, fun y hy => (List.mem_cons.mp hy).elim (fun e => e ▸ hz) (hzs y)⟩
section
variable {P : Program} {w : World} {K : PySem.W.Frag} {mg : Str → Option Value} {base : Heap}
theorem c_lpath (F : At K mg "_law_path" s_law_path) (B : Bl mg) (c_law_take : Cal P w K mg base 1 "_law_take" spTake) (c_law_of : Cal P w K mg base 2 "_law_of" (spOf K)) : Cal P w K mg base 3 "_law_path" spLPath := by
  refine cal_of F sc_law_path (fun vs H Q E h => ?_) (fun _ _ _ _ _ _ us hl => match us, hl with | [_, _, _], _ => rfl) (fun f cdv A outer s H vs Q E hr h => ?_)
  · obtain ⟨b, Lt, n, ts, ag, rfl, _⟩ := h
    rfl
  · obtain ⟨b, Lt, n, ts, ag, rfl, hb, hn, hT, h0, h10, k⟩ := h
    refine ⟨_, (pss_one (ps_ret (pe_callTy (call_tupleA K) rfl B.tuple (by decide +kernel) (pa_cons (pe_lc (own := [("_law_turn", 3)]) rfl sc_law_path.nd (pi_range1 rfl B.range (pa_cons (pe_op (op_addA K) pe_int (pe_op op_mulA (pe_cA c_law_take hr (by omega) rfl (pa_cons (pv 0) (pa_cons pe_int pa_nil))) (pe_callTy call_intA rfl B.int (by decide +kernel) (pa_cons (pv 2) pa_nil)))) pa_nil)) (blkOk_by (N := N_law_path) (sc := defScope s_law_path) (by decide +kernel)) (fun _ _ _ _ _ => (pg_name (i := 3) sc_law_path.nd rfl (Or.inl rfl))) (fun _ _ _ _ _ => pts_nil) (fun _ _ _ _ _ => (pe_cA c_law_of hr (by omega) rfl (pa_cons (pv 0) (pa_cons (pv 1) pa_nil))))) pa_nil)))), ?_⟩
    walk_at "rd"
    refine ⟨b, _, n, rfl, hb, by omega, by decide, by decide, fun t H1 ht0 ht1 r1 => ?_⟩
    walk_at "rd"
    refine .inr ⟨ag, rfl, ?_⟩
    have hj : ∃ m : Nat, 1 + t * (if ag then 1 else 0) = (m : Nat) ∧ 0 < m ∧ m ≤ 4 ∧ (ag = false → m = 1) := by
      cases ag with
      | false => exact ⟨1, by simp, by omega, by omega, fun _ => rfl⟩
      | true => exact ⟨(1 + t).toNat, by simp; omega, by omega, by omega, fun h => by cases h⟩
    obtain ⟨m, hm, hm0, hm4, hm1⟩ := hj
    refine r_mulI (.inr ⟨by cases ag <;> decide, by cases ag <;> decide⟩) ?_
    walk_at "rd"
    rw [hm]
    refine ⟨_, rfl, by omega, by omega, fun L hL => ?_⟩
    have hT1 := r1.ex _ _ hT
    refine lc_draw (m := ((m : Nat) : Int).toNat) (c := 1) hL r1.bag (by omega) (fun _ v => ∃ z, v = .str z ∧ z ∈ ts) (fun _ _ _ _ h => h) ?_ ?_ ?_
    · exact fun _ => rfl
    · intro i H2 hi r2 Q' q
      walk_at "rd"
      refine ⟨b, _, _, rfl, r2.bag, by omega, .inl ⟨Lt, _, rfl, .inl (SqL.of (r2.ex _ _ hT1)), by rw [List.length_map]; exact h0, by rw [List.length_map]; omega, fun y hy H3 r3 => ?_⟩⟩
      obtain ⟨z, hz, rfl⟩ := List.mem_map.mp hy
      exact q _ _ ⟨z, rfl, hz⟩ r3
    · intro H2 xs hxl hI hL2 nLb r2
      replace r2 := r1.trans r2
      obtain ⟨zs, rfl, hzs⟩ := strs_of hI
      rw [List.length_map, Int.toNat_natCast] at hxl
      walk_at "rd"
      refine ⟨L, _, rfl, .inl ⟨SqL.of hL2, fun p hp => ?_⟩⟩
      obtain ⟨r3, hp3⟩ := r2.bag.new (o := .tup (zs.map V.str)) hp
      refine k p zs _ hp3 (fun e => ?_) (by omega) (fun e => by rw [hxl]; exact hm1 e) hzs ((r2.trans r3).mono (by omega))
      rw [e] at hxl
      exact absurd hxl.symm (by show m ≠ 0; omega)
end

abbrev N_law_near : List Str := ["_law_bag_here", "_law_kit", "_law_number_here"]
theorem sc_law_near : FnScope N_law_near ["_law_bag_here", "_law_kit"] (defScope s_law_near) := ⟨rfl, rfl, rfl, by decide +kernel, rfl, by decide +kernel, by decide +kernel⟩
/-- an item as its data -/
def ItemV (v : V) : Prop := v = .non ∨ (∃ i : Int, v = .int i ∧ i.natAbs < 10 ^ 31) ∨ ∃ z : Str, v = .str z ∧ Word 9 z
def spNear35 : Sp := fun vs H Q _ => ∃ (b D : Addr) (n : Nat), vs = [.ref b, .ref D] ∧ Bag b n H ∧ n + 20 < 1000000000000 ∧ KitAt (hid b H) D ∧ ∀ (v : V) (H' : Hp), ItemV v → Drw b (n + 20) H H' → Q v H'
theorem DGet.of {G H : Hp} {D : Addr} {kvs : List (Key × V)} {k : Str} {v : V} (e : Evl.Ex G H) (h : G D = some (.dK kvs)) (hv : valV kvs (Sum.inr k) = some v) : DGet H D (.str k) (some v) := by
  have := DGet.k (k := Sum.inr k) (e _ _ h)
  rw [hv] at this
  exact this
section
variable {P : Program} {w : World} {K : PySem.W.Frag} {mg : Str → Option Value} {base : Heap}
theorem c_near35 (F : At K mg "_law_near" s_law_near) (B : Bl mg) (c_law_take : Cal P w K mg base 1 "_law_take" spTake) (c_law_of : Cal P w K mg base 2 "_law_of" (spOf K)) : Cal P w K mg base 3 "_law_near" spNear35 := by
  refine cal_of F sc_law_near (fun vs H Q E h => ?_) (fun _ _ _ _ _ _ us hl => match us, hl with | [_, _], _ => rfl) (fun f cdv A outer s H vs Q E hr h => ?_)
  · obtain ⟨b, D, n, rfl, _⟩ := h
    rfl
  · obtain ⟨b, D, n, rfl, hb, hn, hK, k⟩ := h
    obtain ⟨kvs, Ln, Lw, Lc, ns, ws, cs, hD, vN, vW, vC, ⟨hN, hn0, hn1, hn2⟩, ⟨hW, hw1, hw2⟩, hC, hc0, hc1, hc2⟩ := hK
    refine ⟨_, (pss_cons (ps_set (i := 2) sc_law_near.nd rfl (Or.inl rfl) (pe_op op_sub (pe_op (op_addA K) (pe_cA c_law_of hr (by omega) rfl (pa_cons (pv 0) (pa_cons (pe_dget (hu_of hr) (pv 1) pe_str (fun _ _ => rfl)) pa_nil))) (pe_cA c_law_take hr (by omega) rfl (pa_cons (pv 0) (pa_cons pe_int pa_nil)))) pe_int))
  (pss_one (ps_ret (pe_cA c_law_of hr (by omega) rfl (pa_cons (pv 0) (pa_cons (pe_lst (pa_cons pe_non (pa_cons (pe_cA c_law_of hr (by omega) rfl (pa_cons (pv 0) (pa_cons (pe_op (op_addA K) (pe_dget (hu_of hr) (pv 1) pe_str (fun _ _ => rfl)) (pe_lst (pa_cons pe_str pa_nil))) pa_nil))) (pa_cons (pv 2) (pa_cons (pv 2) pa_nil))))) pa_nil)))))), ?_⟩
    walk_at "rd"
    refine ⟨D, _, rfl, DGet.of hid_ex hD vN, ?_⟩
    walk_at "rd"
    refine ⟨b, _, n, rfl, hb, by omega, .inl ⟨Ln, _, rfl, .inl (SqL.of hN), by rw [List.length_map]; exact hn0, by rw [List.length_map]; omega, fun y hy H1 r1 => ?_⟩⟩
    obtain ⟨i, hi, rfl⟩ := List.mem_map.mp hy
    have hi2 := hn2 i hi
    have hD1 := r1.ex _ _ hD
    have hW1 := r1.ex _ _ hW
    walk_at "rd"
    refine ⟨b, _, _, rfl, r1.bag, by omega, by decide, by decide, fun t H2 ht0 ht1 r2 => ?_⟩
    have hD2 := r2.ex _ _ hD1
    have hW2 := r2.ex _ _ hW1
    replace r2 := r1.trans r2
    have hj : (i + t - 1).natAbs < 10 ^ 31 := by omega
    walk_at "rd"
    generalize i + t - 1 = j at hj ⊢
    refine ⟨D, _, rfl, DGet.of hid_ex hD2 vW, ?_⟩
    walk_at "rd"
    refine ⟨by show 1 ≤ sizeLine; decide, fun p hp => ?_⟩
    obtain ⟨r3, hp3⟩ := r2.bag.new (o := .lst [.str "qqqqqqqqq"]) hp
    have hW3 := r3.ex _ _ hW2
    replace r3 := r2.trans r3
    generalize upd H2 p _ = H3 at r3 hp3 hW3 ⊢
    refine r_addL (hid_get hW3) (hid_get hp3) (by rw [List.length_map, sizeLine_eq]; show _ + 1 ≤ _; omega) fun q hq => ?_
    obtain ⟨r4, hq4⟩ := r3.bag.new (o := .lst (ws.map V.str ++ [.str "qqqqqqqqq"])) hq
    replace r4 := r3.trans r4
    generalize upd H3 q _ = H4 at r4 hq4 ⊢
    walk_at "rd"
    refine ⟨b, _, _, rfl, r4.bag, by omega, .inl ⟨q, _, rfl, .inl (SqL.of hq4), by rw [List.length_append]; show 0 < _ + 1; omega, by rw [List.length_append, List.length_map]; show _ + 1 ≤ _; omega, fun u hu H5 r5 => ?_⟩⟩
    replace r5 := r4.trans r5
    have hu' : ItemV u := by
      rcases List.mem_append.mp hu with hu | hu
      · obtain ⟨z, hz, rfl⟩ := List.mem_map.mp hu
        have := hw2 z hz
        exact .inr (.inr ⟨z, rfl, by have := this.1; omega, this.2⟩)
      · rw [List.mem_singleton.mp hu]
        exact .inr (.inr ⟨_, rfl, by decide +kernel, by decide +kernel⟩)
    walk_at "rd"
    refine ⟨by show 4 ≤ sizeLine; decide, fun m hm => ?_⟩
    obtain ⟨r6, hm6⟩ := r5.bag.new (o := .lst [.non, u, .int j, .int j]) hm
    replace r6 := r5.trans r6
    refine ⟨b, _, _, rfl, r6.bag, by omega, .inl ⟨m, _, rfl, .inl (SqL.of hm6), by show 0 < 4; omega, by show 4 ≤ _; omega, fun y hy H7 r7 => ?_⟩⟩
    refine k y _ ?_ ((r6.trans r7).mono (by omega))
    simp only [List.mem_cons, List.not_mem_nil, or_false] at hy
    rcases hy with rfl | rfl | rfl | rfl
    · exact .inl rfl
    · exact hu'
    · exact .inr (.inl ⟨_, rfl, hj⟩)
    · exact .inr (.inl ⟨_, rfl, hj⟩)
end

abbrev N_law_some_texts : List Str := ["_law_bag_here", "_law_many", "_law_found", "_law_turn", "_law_text"]
theorem sc_law_some_texts : FnScope N_law_some_texts ["_law_bag_here", "_law_many"] (defScope s_law_some_texts) := ⟨rfl, rfl, rfl, by decide +kernel, rfl, by decide +kernel, by decide +kernel⟩
def spTexts : Sp := fun vs H Q _ => ∃ (b : Addr) (n : Nat), vs = [.ref b, .int 4] ∧ Bag b n H ∧ n + 800 < 1000000000000 ∧
  ∀ (L : Addr) (ts : List Str) (H' : Hp), hid b H' L = some (.lst (ts.map V.str)) → 0 < ts.length → ts.length ≤ 4 → (∀ z ∈ ts, CallOk z) → Drw b (n + 800) H H' → Q (.ref L) H'
section
variable {P : Program} {w : World} {K : PySem.W.Frag} {mg : Str → Option Value} {base : Heap}
theorem c_texts (F : At K mg "_law_some_texts" s_law_some_texts) (B : Bl mg) (c_law_take : Cal P w K mg base 1 "_law_take" spTake) (c_law_any_call : Cal P w K mg base 5 "_law_any_call" spACall) : Cal P w K mg base 6 "_law_some_texts" spTexts := by
  refine cal_of F sc_law_some_texts (fun vs H Q E h => ?_) (fun _ _ _ _ _ _ us hl => match us, hl with | [_, _], _ => rfl) (fun f cdv A outer s H vs Q E hr h => ?_)
  · obtain ⟨b, n, rfl, _⟩ := h
    rfl
  · obtain ⟨b, n, rfl, hb, hn, k⟩ := h
    refine ⟨_, (pss_cons (ps_set (i := 2) sc_law_some_texts.nd rfl (Or.inl rfl) (pe_lst (pa_cons (pe_cA c_law_any_call hr (by omega) rfl (pa_cons (pv 0) pa_nil)) pa_nil)))
  (pss_cons (ps_for PassesOwn.never rfl (pi_range1 rfl B.range (pa_cons (pe_cA c_law_take hr (by omega) rfl (pa_cons (pv 0) (pa_cons (pv 1) pa_nil))) pa_nil)) (pg_name (i := 3) sc_law_some_texts.nd rfl (Or.inl rfl))
   (pss_cons (ps_set (i := 4) sc_law_some_texts.nd rfl (Or.inl rfl) (pe_cA c_law_any_call hr (by omega) rfl (pa_cons (pv 0) pa_nil)))
  (pss_one (ps_if (pt_cmpR (op_notInA K) (pv 4) (pv 2) (by rfl))
   (pss_one (ps_expr (pe_appendA K (pe_bm PySem.F.plainAttrs_list PySem.F.slot_list_append PySem.F.type_list_append mt_append (pv 2) (pa_cons (pv 4) pa_nil)))))
   pss_nil))))
  (pss_one (ps_ret (pv 2))))), ?_⟩
    walk_at "rd"
    refine ⟨b, _, rfl, hb, by omega, fun z H1 hz r1 => ?_⟩
    walk_at "rd"
    refine ⟨by show 1 ≤ sizeLine; decide, fun L hL => ?_⟩
    obtain ⟨r2, hL2⟩ := r1.bag.new (o := .lst [.str z]) hL
    have nLb := hid_ne hL2
    have hL0 : hid b H L = none := hid_none (r1.dom hL)
    replace r2 := r1.trans r2
    generalize upd H1 L _ = H2 at r2 hL2 ⊢
    walk_at "rd"
    refine ⟨b, _, _, rfl, r2.bag, by omega, by decide, by decide, fun t H3 ht0 ht1 r3 => ?_⟩
    have hL3 := r3.ex _ _ hL2
    replace r3 := r2.trans r3
    walk_at "rd"
    refine ⟨_, rfl, by omega, by omega, for_range (lo := 0) (n := t.toNat) (fun i σ H' => ∃ (ts : List Str) (w3 w4 : Option V), σ = [some (.ref b), some (.int 4), some (.ref L), w3, w4] ∧ hid b H' L = some (.lst (ts.map V.str)) ∧ 0 < ts.length ∧ ts.length ≤ 1 + i ∧ (∀ z ∈ ts, CallOk z) ∧ Drw b (n + 200 + 150 * i) H H') ?_ ?_ ?_⟩
    · exact ⟨[z], _, _, rfl, hL3, Nat.one_pos, Nat.le_refl _, fun y hy => by rw [List.mem_singleton.mp hy]; exact hz, r3.mono (by omega)⟩
    · rintro i σ H4 hi ⟨ts, w3, w4, rfl, hL4, h0, h1, hts, r4⟩
      walk_at "rd"
      refine ⟨b, _, rfl, r4.bag, by omega, fun y H5 hy r5 => ?_⟩
      have hL5 := r5.ex _ _ hL4
      replace r5 := r4.trans r5
      walk_at "rd"
      refine r_notInStrs (.inl (SqL.of (hid_get hL5))) ?_
      walk_at "rd"
      by_cases hm : y ∈ ts
      · rw [decide_eq_true hm]
        walk_at "rx"
        exact ⟨ts, _, _, rfl, hL5, h0, by omega, hts, r5.mono (by omega)⟩
      · rw [decide_eq_false hm]
        walk_at "rx"
        refine r_tyL (SqL.of (hid_get hL5)) ?_
        walk_at "rd"
        refine r_app (hid_get hL5) (by rw [List.length_map, sizeLine_eq]; omega) ?_
        refine ⟨ts ++ [y], _, _, rfl, hid_of (by rw [upd_same, List.map_append]; rfl) nLb, by rw [List.length_append]; omega, by rw [List.length_append, List.length_singleton]; omega, fun u hu => ?_, (Drw.put r5 hL0 nLb).mono (by omega)⟩
        rcases List.mem_append.mp hu with hu | hu
        · exact hts u hu
        · rw [List.mem_singleton.mp hu]; exact hy
    · rintro σ H4 ⟨ts, w3, w4, rfl, hL4, h0, h1, hts, r4⟩
      walk_at "rd"
      exact k L ts _ hL4 h0 (by omega) hts (r4.mono (by omega))
end

abbrev N_law_any_answer : List Str := ["_law_bag_here", "_law_kit", "_law_way", "_law_classes", "_law_cause", "_law_turn"]
theorem sc_law_any_answer : FnScope N_law_any_answer ["_law_bag_here", "_law_kit"] (defScope s_law_any_answer) := ⟨rfl, rfl, rfl, by decide +kernel, rfl, by decide +kernel, by decide +kernel⟩
/-- an answer and its data -/
def AnsV (K : PySem.W.Frag) (G : Hp) (v : V) : Prop := ∃ d, Dp K G v d ∧ fit d = true ∧ isAnswerD d = true ∧ tinyD d = true
theorem AnsV.mono {K : PySem.W.Frag} {G G' : Hp} {v : V} (e : Evl.Ex G G') (h : AnsV K G v) : AnsV K G' v := let ⟨d, h1, h2⟩ := h; ⟨d, Dp.mono e h1, h2⟩
theorem word_fit {m : Nat} {z : Str} (h : Word m z) (hm : m ≤ 1000) : fit (.str z) = true := by
  have h1 := h.1
  exact fit_of (by rw [tl_length]; omega) fun c hc => by have := h.2 c hc; omega
theorem cls_fit {z : Str} (h : ClsN z) : fit (.str z) = true := by
  obtain ⟨c, r, h1, h2, h3, h4⟩ := h
  have e : tl z = c :: r := h1
  refine fit_of (by rw [e, List.length_cons]; omega) fun x hx => ?_
  rw [e] at hx
  rcases List.mem_cons.mp hx with rfl | hx
  · omega
  · have := h3 x hx
    unfold Let at this
    omega
theorem cls_len40 {z : Str} (h : ClsN z) : z.length ≤ 40 := by
  obtain ⟨c, r, e, _, _, h4⟩ := h
  have : z.length = (c :: r).length := by rw [← e]; rfl
  rw [this, List.length_cons]
  omega
theorem item_data {K : PySem.W.Frag} {G : Hp} {v : V} (h : ItemV v) : ∃ d, Dp K G v d ∧ fit d = true ∧ isItemD d = true ∧ tinyI d = true := by
  rcases h with rfl | ⟨i, rfl, hi⟩ | ⟨z, rfl, hz⟩
  · exact ⟨_, .non, by rw [fit], rfl, rfl⟩
  · exact ⟨_, .int i, by rw [fit], rfl, decide_eq_true (by omega)⟩
  · refine ⟨_, .str z, word_fit hz (by omega), ?_, decide_eq_true (by have := hz.1; omega)⟩
    show isWordS z 30 = true
    unfold isWordS
    rw [Bool.and_eq_true]
    refine ⟨decide_eq_true (by have := hz.1; omega), List.all_eq_true.mpr fun c hc => decide_eq_true ?_⟩
    have := hz.2 c hc
    exact small_mem.mpr ⟨by omega, by omega⟩
theorem items_data {K : PySem.W.Frag} {G : Hp} : ∀ {xs : List V}, (∀ v ∈ xs, ItemV v) → ∃ ds, DpAll K G xs ds ∧ fitAll ds = true ∧ ds.all isItemD = true ∧ ds.all tinyI = true
  | [], _ => ⟨[], .nil, by rw [fitAll], rfl, rfl⟩
  | v :: xs, h => by
    obtain ⟨d, h1, h2, h3, h4⟩ := item_data (K := K) (G := G) (h v (List.mem_cons_self ..))
    obtain ⟨ds, g1, g2, g3, g4⟩ := items_data (K := K) (G := G) (xs := xs) fun u hu => h u (List.mem_cons_of_mem _ hu)
    exact ⟨d :: ds, .cons h1 g1, by rw [fitAll, h2, g2]; rfl, by rw [List.all_cons, h3, g3]; rfl, by rw [List.all_cons, h4, g4]; rfl⟩
theorem item_tiny {d : PyData} (h : isItemD d = true) (t : tinyI d = true) : tinyD d = true := by
  cases d with
  | list xs => simp [isItemD] at h
  | tuple xs => simp [isItemD] at h
  | _ => exact t
theorem item_ans {d : PyData} (h : isItemD d = true) : isAnswerD d = true := by
  cases d with
  | list xs => simp [isItemD] at h
  | none => rfl
  | int i => rfl
  | str z =>
    show (isItemD (.str z) || isRaisedD (.str z)) = true
    rw [h]
    rfl
  | bool b => simp [isItemD] at h
  | tuple xs => simp [isItemD] at h
  | dict xs => simp [isItemD] at h
theorem item_depth {d : PyData} (h : isItemD d = true) : d.depth = 0 := by
  cases d with
  | list xs => simp [isItemD] at h
  | tuple xs => simp [isItemD] at h
  | dict xs => simp [isItemD] at h
  | _ => rw [PyData.depth]
theorem items_depth : ∀ {ds : List PyData}, ds.all isItemD = true → PyData.depthAll ds = 0
  | [], _ => by rw [PyData.depthAll]
  | d :: ds, h => by
    rw [List.all_cons, Bool.and_eq_true] at h
    rw [PyData.depthAll, item_depth h.1, items_depth h.2]
    rfl
theorem cls_depth {d : PyData} (h : isClsD d = true) : d.depth = 0 := by
  cases d with
  | str z => rw [PyData.depth]
  | _ => simp [isClsD] at h
theorem non_depth {d : PyData} (h : isNonD d = true) : d.depth = 0 := by
  cases d with
  | none => rw [PyData.depth]
  | _ => simp [isNonD] at h
theorem ans_depth {d : PyData} (h : isAnswerD d = true) : d.depth ≤ 2 := by
  cases d with
  | list xs =>
    have h : xs.all isItemD = true := h
    rw [PyData.depth, items_depth h]
    omega
  | tuple xs =>
    replace h : isRaisedD (.tuple xs) = true := h
    unfold isRaisedD at h
    split at h
    · rename_i a b c e
      injection e with e
      subst e
      rw [Bool.and_eq_true, Bool.and_eq_true, Bool.or_eq_true] at h
      obtain ⟨_, hb, hc⟩ := h
      have h1 := cls_depth hb
      have h2 : c.depth = 0 := hc.elim non_depth cls_depth
      rw [PyData.depth, PyData.depthAll, PyData.depthAll, PyData.depthAll, PyData.depthAll, h1, h2, PyData.depth]
      decide
    · cases h
  | dict xs => replace h : (isItemD (.dict xs) || isRaisedD (.dict xs)) = true := h; simp [isItemD, isRaisedD] at h
  | _ => rw [PyData.depth]; omega
theorem AnsV.dv {K : PySem.W.Frag} {G : Hp} {v : V} (h : AnsV K G v) : Dv K G 2 v := let ⟨d, h1, h2, h3, _⟩ := h; ⟨d, h1, h2, ans_depth h3⟩
def spAnyAns (K : PySem.W.Frag) : Sp := fun vs H Q _ => ∃ (b D : Addr) (n : Nat), vs = [.ref b, .ref D] ∧ Bag b n H ∧ n + 200 < 1000000000000 ∧ KitAt (hid b H) D ∧ ∀ (v : V) (H' : Hp), AnsV K (nov H H') v → Drw b (n + 200) H H' → Q v H'
section
variable {P : Program} {w : World} {K : PySem.W.Frag} {mg : Str → Option Value} {base : Heap}
theorem c_any_ans (F : At K mg "_law_any_answer" s_law_any_answer) (B : Bl mg) (c_law_take : Cal P w K mg base 1 "_law_take" spTake) (c_law_of : Cal P w K mg base 2 "_law_of" (spOf K)) (c_law_near : Cal P w K mg base 3 "_law_near" spNear35) : Cal P w K mg base 4 "_law_any_answer" (spAnyAns K) := by
  refine cal_of F sc_law_any_answer (fun vs H Q E h => ?_) (fun _ _ _ _ _ _ us hl => match us, hl with | [_, _], _ => rfl) (fun f cdv A outer s H vs Q E hr h => ?_)
  · obtain ⟨b, D, n, rfl, _⟩ := h
    rfl
  · obtain ⟨b, D, n, rfl, hb, hn, hK, k⟩ := h
    have hK0 := hK
    obtain ⟨kvs, Ln, Lw, Lc, ns, ws, cs, hD, vN, vW, vC, ⟨hN, hn0, hn1, hn2⟩, ⟨hW, hw1, hw2⟩, hC, hc0, hc1, hc2⟩ := hK
    refine ⟨_, (pss_cons (ps_par (i := 2) (j := 3) (by rfl) sc_law_any_answer.nd rfl rfl (by decide) rfl rfl (pa_cons (pe_cA c_law_take hr (by omega) rfl (pa_cons (pv 0) (pa_cons pe_int pa_nil))) (pa_cons (pe_op (op_addA K) (pe_dget (hu_of hr) (pv 1) pe_str (fun _ _ => rfl)) (pe_lst (pa_cons pe_str pa_nil))) pa_nil)) (by rfl))
  (pss_cons (ps_if (pt_cmpR op_ltA (pv 2) pe_int (nomark _))
   (pss_one (ps_ret (pe_cA c_law_near hr (by omega) rfl (pa_cons (pv 0) (pa_cons (pv 1) pa_nil)))))
   pss_nil)
  (pss_cons (ps_if (pt_cmpR (op_eqA K hr.units) (pv 2) pe_int (nomark _))
   (pss_cons (ps_set (i := 4) sc_law_any_answer.nd rfl (Or.inl rfl) (pe_ifExp (pt_cmpR (op_eqA K hr.units) (pe_cA c_law_take hr (by omega) rfl (pa_cons (pv 0) (pa_cons pe_int pa_nil))) pe_int (nomark _)) (pe_cA c_law_of hr (by omega) rfl (pa_cons (pv 0) (pa_cons (pv 3) pa_nil))) pe_non))
  (pss_one (ps_ret (pe_tup (pa_cons pe_str (pa_cons (pe_cA c_law_of hr (by omega) rfl (pa_cons (pv 0) (pa_cons (pv 3) pa_nil))) (pa_cons (pv 4) pa_nil)))))))
   pss_nil)
  (pss_cons (ps_if (pt_cmpR (op_eqA K hr.units) (pv 2) pe_int (nomark _))
   (pss_one (ps_ret pe_non))
   pss_nil)
  (pss_one (ps_ret (pe_lc (own := [("_law_turn", 5)]) rfl sc_law_any_answer.nd (pi_range1 rfl B.range (pa_cons (pe_cA c_law_take hr (by omega) rfl (pa_cons (pv 0) (pa_cons pe_int pa_nil))) pa_nil)) (blkOk_by (N := N_law_any_answer) (sc := defScope s_law_any_answer) (by decide +kernel)) (fun _ _ _ _ _ => (pg_name (i := 5) sc_law_any_answer.nd rfl (Or.inl rfl))) (fun _ _ _ _ _ => pts_nil) (fun _ _ _ _ _ => (pe_cA c_law_near hr (by omega) rfl (pa_cons (pv 0) (pa_cons (pv 1) pa_nil))))))))))), ?_⟩
    walk_at "rd"
    refine ⟨b, _, n, rfl, hb, by omega, by decide, by decide, fun t H1 ht0 ht1 r1 => ?_⟩
    have hD1 := r1.ex _ _ hD
    have hC1 := r1.ex _ _ hC
    walk_at "rd"
    refine ⟨D, _, rfl, DGet.of hid_ex hD1 vC, ?_⟩
    walk_at "rd"
    refine ⟨by show 1 ≤ sizeLine; decide, fun p hp => ?_⟩
    obtain ⟨r2, hp2⟩ := r1.bag.new (o := .lst [.str "Zq"]) hp
    have hC2 := r2.ex _ _ hC1
    replace r2 := r1.trans r2
    generalize upd H1 p _ = H2 at r2 hp2 hC2 ⊢
    refine r_addL (hid_get hC2) (hid_get hp2) (by rw [List.length_map, sizeLine_eq]; show _ + 1 ≤ _; omega) fun q hq => ?_
    have eC : cs.map V.str ++ [.str "Zq"] = (cs ++ (["Zq"] : List Str)).map V.str := by rw [List.map_append]; rfl
    rw [eC]
    obtain ⟨r3, hq3⟩ := r2.bag.new (o := .lst ((cs ++ (["Zq"] : List Str)).map V.str)) hq
    have hcs : ∀ z ∈ cs ++ (["Zq"] : List Str), ClsN z := fun z hz => by
      rcases List.mem_append.mp hz with hz | hz
      · exact hc2 z hz
      · rw [List.mem_singleton.mp hz]
        exact isCls_iff.mp (by decide +kernel)
    have hcl : 0 < (cs ++ (["Zq"] : List Str)).length ∧ (cs ++ (["Zq"] : List Str)).length ≤ 15 := by
      rw [List.length_append]
      show 0 < _ + 1 ∧ _ + 1 ≤ 15
      omega
    replace r3 := r2.trans r3
    generalize upd H2 q _ = H3 at r3 hq3 ⊢
    generalize cs ++ (["Zq"] : List Str) = cz at hcs hcl hq3
    have hK3 := hK0.mono r3.ex
    walk_at "rd"
    refine iteD (fun h2 => ?_) (fun h2 => ?_)
    · walk_at "rd"
      refine ⟨b, D, _, rfl, r3.bag, by omega, hK3, fun v H4 hv r4 => ?_⟩
      obtain ⟨d, d1, d2, d3, d4⟩ := item_data (K := K) (G := nov H H4) hv
      exact k v _ ⟨d, d1, d2, item_ans d3, item_tiny d3 d4⟩ ((r3.trans r4).mono (by omega))
    · walk_at "rd"
      refine iteD (fun h3 => ?_) (fun h3 => ?_)
      · walk_at "rd"
        refine ⟨b, _, _, rfl, r3.bag, by omega, by decide, by decide, fun t2 H4 ht20 ht21 r4 => ?_⟩
        have hq4 := r4.ex _ _ hq3
        replace r4 := r3.trans r4
        have fin : ∀ (cv : V) (dc : PyData) (H5 : Hp), (∀ G, Dp K G cv dc) → fit dc = true → (isNonD dc || isClsD dc) = true → tinyI dc = true → hid b H5 q = some (.lst (cz.map V.str)) → Drw b (n + 3) H H5 → ∀ z ∈ cz, ∀ H6, Drw b (n + 4) H5 H6 → ∀ l, H6 l = none → Q (.ref l) (upd H6 l (.tup [.str "raises", .str z, cv])) := by
          intro cv dc H5 hdc hfc hic htc hq5 r5 z hz H6 r6 l hl
          obtain ⟨r7, hl7⟩ := r6.bag.new (o := .tup [.str "raises", .str z, cv]) hl
          refine k _ _ ⟨.tuple [.str "raises", .str z, dc], .tup (SqT.of (nov_of ((r5.trans r6).dom hl) (hid_get hl7))) (.cons (.str _) (.cons (.str _) (.cons (hdc _) .nil))), ?_, ?_, ?_⟩ (((r5.trans r6).trans r7).mono (by omega))
          · have h1 : fit (.str "raises") = true := by decide +kernel
            rw [fit, fitAll, fitAll, fitAll, fitAll, h1, cls_fit (hcs z hz), hfc]
            rfl
          · show (isItemD (.tuple [.str "raises", .str z, dc]) || isRaisedD (.tuple [.str "raises", .str z, dc])) = true
            have e : isRaisedD (.tuple [.str "raises", .str z, dc]) = (decide (("raises" : Str) = "raises") && (isClsS z && (isNonD dc || isClsD dc))) := rfl
            rw [e, hic, isCls_iff.mpr (hcs z hz), decide_eq_true rfl, Bool.and_true, Bool.and_true, Bool.or_true]
          · show (decide (3 ≤ 100) && (tinyI (.str "raises") && (tinyI (.str z) && (tinyI dc && true)))) = true
            rw [htc, show tinyI (.str "raises") = true from by decide +kernel, show tinyI (.str z) = true from decide_eq_true (cls_len40 (hcs z hz))]
            rfl
        walk_at "rd"
        refine iteD (fun h4 => ?_) (fun h4 => ?_)
        · walk_at "rd"
          refine ⟨b, _, _, rfl, r4.bag, by omega, .inl ⟨q, _, rfl, .inl (SqL.of hq4), by rw [List.length_map]; omega, by rw [List.length_map]; omega, fun y hy H5 r5 => ?_⟩⟩
          obtain ⟨z, hz, rfl⟩ := List.mem_map.mp hy
          have hq5 := r5.ex _ _ hq4
          replace r5 := r4.trans r5
          walk_at "rd"
          refine ⟨b, _, _, rfl, r5.bag, by omega, .inl ⟨q, _, rfl, .inl (SqL.of hq5), by rw [List.length_map]; omega, by rw [List.length_map]; omega, fun y hy H6 r6 => ?_⟩⟩
          obtain ⟨z2, hz2, rfl⟩ := List.mem_map.mp hy
          walk_at "rd"
          exact ⟨by show 3 ≤ sizeLine; decide, fin (.str z) (.str z) H5 (fun _ => .str z) (cls_fit (hcs z hz)) (isCls_iff.mpr (hcs z hz)) (decide_eq_true (cls_len40 (hcs z hz))) hq5 r5 z2 hz2 H6 r6⟩
        · walk_at "rd"
          refine ⟨b, _, _, rfl, r4.bag, by omega, .inl ⟨q, _, rfl, .inl (SqL.of hq4), by rw [List.length_map]; omega, by rw [List.length_map]; omega, fun y hy H6 r6 => ?_⟩⟩
          obtain ⟨z2, hz2, rfl⟩ := List.mem_map.mp hy
          walk_at "rd"
          exact ⟨by show 3 ≤ sizeLine; decide, fin .non .none H4 (fun _ => .non) (by rw [fit]) rfl rfl hq4 (r4.mono (by omega)) z2 hz2 H6 (r6.mono (by omega))⟩
      · walk_at "rd"
        refine iteD (fun h4 => ?_) (fun h4 => ?_)
        · walk_at "rd"
          exact k _ _ ⟨.none, .non, by rw [fit], rfl, rfl⟩ (r3.mono (by omega))
        · walk_at "rd"
          refine ⟨b, _, _, rfl, r3.bag, by omega, by decide, by decide, fun m0 H4 hm0 hm1 r4 => ?_⟩
          have hK4 := hK3.mono r4.ex
          replace r4 := r3.trans r4
          obtain ⟨m, rfl⟩ := Int.eq_ofNat_of_zero_le hm0
          refine ⟨_, rfl, by omega, by omega, fun L hL => ?_⟩
          refine lc_draw (m := (m : Int).toNat) (c := 20) hL r4.bag (by omega) (fun _ v => ItemV v) (fun _ _ _ _ h => h) ?_ ?_ ?_
          · exact fun _ => rfl
          · intro i H5 hi r5 Q' q'
            walk_at "rd"
            exact ⟨b, D, _, rfl, r5.bag, by omega, hK4.mono r5.ex, fun v H6 hv r6 => q' v H6 hv r6⟩
          · intro H5 xs hxl hI hL5 nLb r5
            replace r5 := r4.trans r5
            obtain ⟨ds, d1, d2, d3, d4⟩ := items_data (K := K) (G := nov H H5) hI
            have hdl := DpAll.length d1
            walk_at "rd"
            refine k _ _ ⟨.list ds, .lst (SqL.of (nov_of (r4.dom hL) hL5)) d1, ?_, d3, by show (decide (ds.length ≤ 100) && ds.all tinyI) = true; rw [d4, Bool.and_true]; exact decide_eq_true (by omega)⟩ (r5.mono (by omega))
            rw [fit, d2, Bool.and_true]
            exact decide_eq_true (by omega)
end

end WP

set_option Elab.async false
set_option linter.all false
set_option maxRecDepth 100000
set_option maxHeartbeats 4000000
namespace WP
open PySem PySem.Spec PyProof.Rows L2
local macro_rules | `(tactic| walk_at "rd") => `(tactic| repeat (first
  | with_reducible refine r_seq ?_ | with_reducible refine r_fld ?_ | with_reducible refine r_fldS ?_ | with_reducible refine r_meth ?_ | with_reducible refine r_methX ?_ | with_reducible refine r_make ?_ | with_reducible refine r_makeS ?_ | with_reducible refine r_makeKS ?_ | with_reducible refine r_dcA ?_ | with_reducible refine r_addOS ?_ | with_reducible refine r_dgetT ?_ | with_reducible refine r_dputT ?_ | with_reducible refine r_dget2T ?_ | with_reducible refine r_starT ?_ | with_reducible refine r_statT ?_ | with_reducible refine r_par3 ?_ | with_reducible refine r_callR ?_ | with_reducible refine r_callS ?_ | with_reducible refine r_mkO ?_ | with_reducible refine r_raise ?_ | with_reducible refine r_callW ?_ | with_reducible refine r_tru ?_ | with_reducible refine r_var rfl ?_ | with_reducible refine r_c ?_ | with_reducible refine r_op ?_ | with_reducible refine r_cons ?_ | with_reducible refine r_nil ?_
  | with_reducible refine r_cb ?_ | with_reducible refine r_call ?_ | with_reducible refine r_test ?_ | with_reducible refine r_B ?_ | with_reducible refine r_bl ?_ | with_reducible refine r_asg ?_ | with_reducible refine r_asgS ?_
  | with_reducible refine r_ret ?_ | with_reducible refine r_drop ?_ | with_reducible refine r_ifS ?_ | with_reducible refine r_if ?_ | with_reducible refine r_and ?_ | with_reducible refine r_or ?_ | with_reducible refine r_not ?_
  | with_reducible refine r_andV ?_ | with_reducible refine r_orV ?_ | with_reducible refine r_notV ?_ | with_reducible refine r_chain ?_ | with_reducible refine r_sl ?_ | with_reducible refine r_nopart ?_ | with_reducible refine r_part ?_ | with_reducible refine r_partN ?_ | with_reducible refine r_xv ?_ | with_reducible refine r_xo ?_ | with_reducible refine r_mkV ?_ | with_reducible refine r_forG ?_ | with_reducible refine r_listG ?_ | with_reducible refine r_methG ?_
  | with_reducible refine r_intO ?_ | with_reducible refine r_two ?_ | with_reducible refine r_m1 ?_ | with_reducible refine r_bm ?_ | with_reducible refine r_next ?_ | with_reducible refine r_gCons ?_ | with_reducible refine r_gNil ?_ | with_reducible refine r_asgT ?_ | with_reducible refine r_for ?_ | with_reducible refine r_rng1 ?_ | with_reducible refine r_iList ?_ | with_reducible refine r_iAny ?_ | with_reducible refine r_lc ?_ | with_reducible refine r_yes ?_ | with_reducible refine r_gN ?_ | with_reducible refine r_par ?_ | with_reducible refine r_un ?_ | with_reducible refine r_brk ?_ | with_reducible refine r_cont ?_
  | with_reducible refine r_I0 ?_ | with_reducible refine r_U ?_ | with_reducible refine r_addI ?_ | with_reducible refine r_abs ?_ | with_reducible refine r_intI ?_ | with_reducible refine r_max2 ?_ | with_reducible refine r_min2 ?_
  | with_reducible refine r_ltI ?_ | with_reducible refine r_leI ?_ | with_reducible refine r_gtI ?_ | with_reducible refine r_geI ?_ | with_reducible refine r_isN_non ?_ | with_reducible refine r_isN_int ?_ | with_reducible refine r_isN_str ?_ | with_reducible refine r_isN_bl ?_ | with_reducible refine r_isN_ref ?_ | with_reducible refine r_isN ?_ | with_reducible refine r_isB ?_ | with_reducible refine r_isnotN_non ?_ | with_reducible refine r_isnotN_int ?_ | with_reducible refine r_isnotN_str ?_ | with_reducible refine r_isnotN_bl ?_ | with_reducible refine r_isnotN_ref ?_ | with_reducible refine r_isnotN ?_ | with_reducible refine r_isnotB ?_
  | with_reducible refine r_inS ?_ | with_reducible refine r_eqS rfl ?_ | with_reducible refine r_neS rfl ?_ | with_reducible refine r_lst ?_ | with_reducible refine r_tup ?_ | with_reducible refine iteT ?_ | with_reducible refine iteF ?_))
local macro_rules | `(tactic| walk_at "isi") => `(tactic| (first
  | with_reducible refine r_isi_non_int ?_
  | with_reducible refine r_isi_non_str ?_
  | with_reducible refine r_isi_non_list ?_
  | with_reducible refine r_isi_non_tuple ?_
  | with_reducible refine r_isi_non_bool ?_
  | with_reducible refine r_isi_bl_int ?_
  | with_reducible refine r_isi_bl_str ?_
  | with_reducible refine r_isi_bl_list ?_
  | with_reducible refine r_isi_bl_tuple ?_
  | with_reducible refine r_isi_bl_bool ?_
  | with_reducible refine r_isi_int_int ?_
  | with_reducible refine r_isi_int_str ?_
  | with_reducible refine r_isi_int_list ?_
  | with_reducible refine r_isi_int_tuple ?_
  | with_reducible refine r_isi_int_bool ?_
  | with_reducible refine r_isi_str_int ?_
  | with_reducible refine r_isi_str_str ?_
  | with_reducible refine r_isi_str_list ?_
  | with_reducible refine r_isi_str_tuple ?_
  | with_reducible refine r_isi_str_bool ?_
  | with_reducible refine r_isi_lst_int (SqL.of (by assumption)) ?_
  | with_reducible refine r_isi_lst_str (SqL.of (by assumption)) ?_
  | with_reducible refine r_isi_lst_list (SqL.of (by assumption)) ?_
  | with_reducible refine r_isi_lst_tuple (SqL.of (by assumption)) ?_
  | with_reducible refine r_isi_lst_bool (SqL.of (by assumption)) ?_
  | with_reducible refine r_isi_tup_int (SqT.of (by assumption)) ?_
  | with_reducible refine r_isi_tup_str (SqT.of (by assumption)) ?_
  | with_reducible refine r_isi_tup_list (SqT.of (by assumption)) ?_
  | with_reducible refine r_isi_tup_tuple (SqT.of (by assumption)) ?_
  | with_reducible refine r_isi_tup_bool (SqT.of (by assumption)) ?_))
local macro_rules | `(tactic| walk_at "rs") => `(tactic| (first
  | ((with_reducible refine iteTc ?hc ?_); (case hc => rfl)) | ((with_reducible refine iteFc ?hc ?_); (case hc => rfl))
  | walk_at "isi"
  | refine r_ixL (SqL.of (by assumption)) rfl ?_ | refine r_ixL (SqL.of upd_same) rfl ?_
  | refine r_I (C := fun _ j => 0 < j) (by first | decide | assumption | omega) ?_
  | refine r_mulI (.inl ⟨by decide, by decide⟩) ?_ | refine r_mulI (.inr ⟨by decide, by decide⟩) ?_ | refine r_mulI (.inr ⟨by omega, by omega⟩) ?_ | refine r_mulI (.inl ⟨by omega, by omega⟩) ?_
  | refine r_I (wide_div (b := 64) (by decide) (by decide) (by decide) (by decide)) ?_
  | refine r_I (C := CPow) ⟨by decide, by decide, by decide⟩ ?_
  | refine r_setL (by assumption) rfl ?_ | refine r_setL upd_same rfl ?_))
local macro_rules | `(tactic| walk_at "rx") => `(tactic| (walk_at "rd"; (repeat (walk_at "rs"; walk_at "rd"))))

abbrev N_law_drawn_pairs : List Str := ["_law_bag_here", "_law_kit", "_law_texts", "_law_aged", "_law_many", "_law_found", "_law_turn", "_law_path_here", "_law_old"]
theorem sc_law_drawn_pairs : FnScope N_law_drawn_pairs ["_law_bag_here", "_law_kit", "_law_texts", "_law_aged", "_law_many"] (defScope s_law_drawn_pairs) := ⟨rfl, rfl, rfl, by decide +kernel, rfl, by decide +kernel, by decide +kernel⟩
def PathOk (ag : Bool) (zs : List Str) : Prop := zs ≠ [] ∧ zs.length ≤ 4 ∧ (ag = false → zs.length = 1) ∧ ∀ z ∈ zs, CallOk z
/-- a pair of path and answer -/
def AnsD (K : PySem.W.Frag) (G : Hp) (v : V) (d : PyData) : Prop := Dp K G v d ∧ fit d = true ∧ isAnswerD d = true ∧ tinyD d = true
theorem AnsD.mono {K : PySem.W.Frag} {G G' : Hp} {v : V} {d : PyData} (x : Evl.Ex G G') (h : AnsD K G v d) : AnsD K G' v d := ⟨Dp.mono x h.1, h.2⟩
def RowV (K : PySem.W.Frag) (G : Hp) (ag : Bool) (v : V) (t : List Str × PyData) : Prop := ∃ (e p : Addr) (va : V), v = .ref e ∧ G e = some (.tup [.ref p, va]) ∧ G p = some (.tup (t.1.map V.str)) ∧ AnsD K G va t.2 ∧ PathOk ag t.1
theorem RowV.mono {K : PySem.W.Frag} {G G' : Hp} {ag : Bool} {v : V} {zs : List Str × PyData} (x : Evl.Ex G G') (h : RowV K G ag v zs) : RowV K G' ag v zs := let ⟨e, p, va, h1, h2, h3, h4, h5⟩ := h; ⟨e, p, va, h1, x _ _ h2, x _ _ h3, h4.mono x, h5⟩
theorem str_inj {a b : List Str} (h : a.map V.str = b.map V.str) : a = b := (List.map_inj_right (fun _ _ q => V.str.inj q)).mp h
theorem RowV.inj {K : PySem.W.Frag} {G : Hp} {ag : Bool} {v : V} {y z : List Str × PyData} (h : RowV K G ag v y) (g : RowV K G ag v z) : y.1 = z.1 := by
  obtain ⟨e, p, va, rfl, h2, h3, _⟩ := h
  obtain ⟨e', p', va', q1, g2, g3, _⟩ := g
  cases q1
  rw [h2] at g2
  cases g2
  rw [h3] at g3
  injection g3 with g3
  injection g3 with g3
  exact str_inj g3
theorem PathOk.dv {K : PySem.W.Frag} {G : Hp} {ag : Bool} {p : Addr} {zs : List Str} (h : PathOk ag zs) (hp : G p = some (.tup (zs.map V.str))) : Dv K G 1 (.ref p) := by
  refine dv_tup (SqT.of hp) (fun v hv => ?_) (by rw [List.length_map]; have := h.2.1; omega)
  obtain ⟨z, hz, rfl⟩ := List.mem_map.mp hv
  obtain ⟨f1, f2⟩ := fit_str (h.2.2.2 z hz).fit
  exact dv_str f1 f2
theorem RowV.dv {K : PySem.W.Frag} {G : Hp} {ag : Bool} {v : V} {zs : List Str × PyData} (h : RowV K G ag v zs) : Dv K G 3 v := by
  obtain ⟨e, p, va, rfl, h2, h3, h4, h5⟩ := h
  refine dv_tup (SqT.of h2) (fun v hv => ?_) (by show 2 ≤ _; omega)
  simp only [List.mem_cons, List.not_mem_nil, or_false] at hv
  rcases hv with rfl | rfl
  · exact (h5.dv h3).mono (Evl.Ex.refl _) (by omega)
  · exact ⟨zs.2, h4.1, h4.2.1, ans_depth h4.2.2.1⟩
theorem novL {b L : Addr} {H H' : Hp} (hb : H b ≠ none) (hL : H L ≠ none) : Evl.Ex (nov H H') (hid L (hid b H')) := fun a o h => hid_of (nov_hidb hb a o h) fun e => hL (by rw [← e]; exact (nov_get h).1)
theorem dv_shaped {K : PySem.W.Frag} {G : Hp} {m : Nat} {v : V} (h : Dv K G m v) (hm : m ≤ 64) : ∃ d, Dp K G v d ∧ SeqAt.shaped d = true := by
  obtain ⟨d, h1, h2, h3⟩ := h
  refine ⟨d, h1, ?_⟩
  unfold SeqAt.shaped
  rw [fit_lay h2, Bool.true_and]
  exact decide_eq_true (by omega)
/-- a tuple of texts as its data -/
theorem path_dp {K : PySem.W.Frag} {G : Hp} : ∀ (zs : List Str), DpAll K G (zs.map V.str) (zs.map PyData.str)
  | [] => .nil
  | z :: r => .cons (.str z) (path_dp r)
theorem path_shaped {ag : Bool} {zs : List Str} (h : PathOk ag zs) : SeqAt.shaped (.tuple (zs.map PyData.str)) = true := by
  have hf : fit (.tuple (zs.map PyData.str)) = true := by
    rw [fit, fitAll_of (fun d hd => by obtain ⟨z, hz, rfl⟩ := List.mem_map.mp hd; exact (h.2.2.2 z hz).fit), Bool.and_true]
    exact decide_eq_true (by rw [List.length_map]; have := h.2.1; omega)
  have hd : ∀ zs : List Str, PyData.depthAll (zs.map PyData.str) = 0 := fun zs => by
    induction zs with
    | nil => rw [List.map_nil, PyData.depthAll]
    | cons z r ih => rw [List.map_cons, PyData.depthAll, ih, PyData.depth]; rfl
  unfold SeqAt.shaped
  rw [fit_lay hf, Bool.true_and, PyData.depth, hd]
  rfl
theorem eqv_paths : ∀ (y z : List Str), PyData.eqvAll (y.map PyData.str) (z.map PyData.str) = decide (y = z)
  | [], [] => by simp [PyData.eqvAll]
  | [], _ :: _ => by simp [PyData.eqvAll]
  | _ :: _, [] => by simp [PyData.eqvAll]
  | a :: y, b :: z => by
    rw [List.map_cons, List.map_cons, PyData.eqvAll, PyData.eqv, eqv_paths y z]
    by_cases h : a = b
    · subst h
      simp
    · simp [h]
/-- the rows of a list -/
structure Rows (K : PySem.W.Frag) (G : Hp) (ag : Bool) (xs : List V) (zss : PTab) : Prop where
  at_ : Paired (RowV K G ag) xs zss
  nd : (zss.map (·.1)).Nodup
  few : xs.length ≤ 60
theorem Rows.mono {K : PySem.W.Frag} {G G' : Hp} {ag : Bool} {xs : List V} {zss : PTab} (e : Evl.Ex G G') (h : Rows K G ag xs zss) : Rows K G' ag xs zss := ⟨Paired.monoP (fun _ _ q => q.mono e) h.at_, h.nd, h.few⟩
theorem rowAt {K : PySem.W.Frag} {G : Hp} {ag : Bool} : ∀ {xs : List V} {zss : PTab} {i : Nat} {v : V}, Paired (RowV K G ag) xs zss → xs[i]? = some v → ∃ zs, zss[i]? = some zs ∧ RowV K G ag v zs
  | _, _, _, _, .nil, h => by simp at h
  | _ :: _, _ :: _, 0, v, .cons h _, e => by
    simp only [List.getElem?_cons_zero, Option.some.injEq] at e
    subst e
    exact ⟨_, rfl, h⟩
  | _ :: _, _ :: _, i + 1, v, .cons _ r, e => by
    rw [List.getElem?_cons_succ] at e ⊢
    exact rowAt r e
theorem rowOf {K : PySem.W.Frag} {G : Hp} {ag : Bool} : ∀ {xs : List V} {zss : PTab} {zs : List Str × PyData}, Paired (RowV K G ag) xs zss → zs ∈ zss → ∃ v ∈ xs, RowV K G ag v zs
  | _, _, _, .nil, h => by cases h
  | x :: _, _ :: _, zs, .cons h r, e => by
    rcases List.mem_cons.mp e with rfl | e
    · exact ⟨x, List.mem_cons_self .., h⟩
    · obtain ⟨v, hv, q⟩ := rowOf r e
      exact ⟨v, List.mem_cons_of_mem _ hv, q⟩
def spPairs (K : PySem.W.Frag) (mm : Nat) : Sp := fun vs H Q _ => ∃ (b D Lt : Addr) (n : Nat) (ts : List Str) (ag : Bool), vs = [.ref b, .ref D, .ref Lt, .bl ag, .int (mm : Nat)] ∧ Bag b n H ∧ n + 6000 < 1000000000000 ∧ KitAt (hid b H) D ∧ hid b H Lt = some (.lst (ts.map V.str)) ∧ 0 < ts.length ∧ ts.length ≤ 10 ∧ (∀ z ∈ ts, CallOk z) ∧
  ∀ (L : Addr) (xs : List V) (zss : PTab) (H' : Hp), hid b H' L = some (.lst xs) → Rows K (hid b H') ag xs zss → xs.length ≤ mm → Drw b (n + 6000) H H' → Q (.ref L) H'
section
variable {P : Program} {w : World} {K : PySem.W.Frag} {mg : Str → Option Value} {base : Heap}
open Classical in
noncomputable def rowIs (K : PySem.W.Frag) (G : Hp) (ag : Bool) (zs : List Str) (v : V) : Bool := decide (∃ d, RowV K G ag v (zs, d))
open Classical in
theorem rowIs_t {G : Hp} {ag : Bool} {zs : List Str} {v : V} (h : ∃ d, RowV K G ag v (zs, d)) : rowIs K G ag zs v = true := by unfold rowIs; exact decide_eq_true h
open Classical in
theorem rowIs_f {G : Hp} {ag : Bool} {zs : List Str} {v : V} (h : ¬ ∃ d, RowV K G ag v (zs, d)) : rowIs K G ag zs v = false := by unfold rowIs; exact decide_eq_false h
theorem c_pairs (F : At K mg "_law_drawn_pairs" s_law_drawn_pairs) (B : Bl mg) (c_law_take : Cal P w K mg base 1 "_law_take" spTake) (c_law_path : Cal P w K mg base 3 "_law_path" spLPath) (c_law_any_answer : Cal P w K mg base 4 "_law_any_answer" (spAnyAns K)) (mm : Nat) (hmm : mm ≤ 12) : Cal P w K mg base 5 "_law_drawn_pairs" (spPairs K mm) := by
  refine cal_of F sc_law_drawn_pairs (fun vs H Q E h => ?_) (fun _ _ _ _ _ _ us hl => match us, hl with | [_, _, _, _, _], _ => rfl) (fun f cdv A outer s H vs Q E hr h => ?_)
  · obtain ⟨b, D, Lt, n, ts, ag, rfl, _⟩ := h
    rfl
  · obtain ⟨b, D, Lt, n, ts, ag, rfl, hb, hn, hK, hT, h0, h10, hts, k⟩ := h
    refine ⟨_, (pss_cons (ps_set (i := 5) sc_law_drawn_pairs.nd rfl (Or.inl rfl) (pe_lst pa_nil))
  (pss_cons (ps_for PassesOwn.never rfl (pi_range1 rfl B.range (pa_cons (pe_cA c_law_take hr (by omega) rfl (pa_cons (pv 0) (pa_cons (pe_op (op_addA K) (pv 4) pe_int) pa_nil))) pa_nil)) (pg_name (i := 6) sc_law_drawn_pairs.nd rfl (Or.inl rfl))
   (pss_cons (ps_set (i := 7) sc_law_drawn_pairs.nd rfl (Or.inr rfl) (pe_cA c_law_path hr (by omega) rfl (pa_cons (pv 0) (pa_cons (pv 2) (pa_cons (pv 3) pa_nil)))))
  (pss_one (ps_if (pt_cmpR (op_eqA K hr.units) (pe_lc (own := [("_law_old", 8)]) rfl sc_law_drawn_pairs.nd (pi_any K (pv 5)) (blkOk_by (N := N_law_drawn_pairs) (sc := defScope s_law_drawn_pairs) (by decide +kernel)) (fun _ _ _ _ _ => (pg_name (i := 8) sc_law_drawn_pairs.nd rfl (Or.inl rfl))) (fun _ _ _ _ _ => pts_one (pt_cmpR (op_eqA K hr.units) (pe_ix (ix_A K) (pv 8) pe_int (fun _ _ => rfl)) (pv 7) (nomark _))) (fun _ _ _ _ _ => (pv 8))) (pe_lst pa_nil) (nomark _))
   (pss_one (ps_expr (pe_appendA K (pe_bm PySem.F.plainAttrs_list PySem.F.slot_list_append PySem.F.type_list_append mt_append (pv 5) (pa_cons (pe_tup (pa_cons (pv 7) (pa_cons (pe_cA c_law_any_answer hr (by omega) rfl (pa_cons (pv 0) (pa_cons (pv 1) pa_nil))) pa_nil))) pa_nil)))))
   pss_nil))))
  (pss_one (ps_ret (pv 5))))), ?_⟩
    walk_at "rd"
    refine ⟨by show 0 ≤ sizeLine; decide, fun L hL => ?_⟩
    obtain ⟨r1, hL1⟩ := hb.new (o := .lst []) hL
    have nLb := hid_ne hL1
    generalize upd H L _ = H1 at r1 hL1 ⊢
    walk_at "rd"
    refine ⟨b, _, _, rfl, r1.bag, by omega, by omega, by omega, fun t H2 ht0 ht1 r2 => ?_⟩
    have hL2 := r2.ex _ _ hL1
    replace r2 := r1.trans r2
    walk_at "rd"
    refine ⟨_, rfl, by omega, by omega, for_range (lo := 0) (n := t.toNat) (fun i σ H' => ∃ (xs : List V) (zss : PTab) (w6 w7 w8 : Option V), σ = [some (.ref b), some (.ref D), some (.ref Lt), some (.bl ag), some (.int (mm : Nat)), some (.ref L), w6, w7, w8] ∧ hid b H' L = some (.lst xs) ∧ Paired (RowV K (hid L (hid b H')) ag) xs zss ∧ (zss.map (·.1)).Nodup ∧ xs.length ≤ i ∧ Drw b (n + 10 + 300 * i) H H') ?_ ?_ ?_⟩
    · exact ⟨[], [], _, _, _, rfl, hL2, .nil, List.nodup_nil, Nat.le_refl _, r2.mono (by omega)⟩
    · rintro i σ H3 hi ⟨xs, zss, w6, w7, w8, rfl, hL3, hP, hnd, hl, r3⟩
      walk_at "rd"
      refine ⟨b, Lt, _, ts, ag, rfl, r3.bag, by omega, r3.ex _ _ hT, h0, h10, fun p zs H4 hp hz0 hz4 hz1 hzt r4 => ?_⟩
      have hL4 := r4.ex _ _ hL3
      have hok : PathOk ag zs := ⟨hz0, hz4, hz1, fun z hz => hts z (hzt z hz)⟩
      have hP4 := Paired.monoP (fun _ _ q => RowV.mono (hid_mono r4.ex) q) hP
      replace r4 := r3.trans r4
      walk_at "rd"
      have hPG : Paired (RowV K (hid b H4) ag) xs zss := Paired.monoP (fun _ _ q => RowV.mono hid_ex q) hP4
      refine .inl ⟨L, rfl, ⟨_, SqL.of (hid_get hL4)⟩, fun M hM => ?_⟩
      refine lc_filt hM (SqL.of (hid_get hL4)) (by omega) (rowIs K (hid b H4) ag zs) ?_ ?_
      · intro j v hv H' e' hne Q' R q1 q2
        obtain ⟨ys, hys, hrow⟩ := rowAt hPG hv
        have hrow' := hrow
        obtain ⟨e, p', va, rfl, he, hp', _, hok'⟩ := hrow'
        refine ⟨rfl, ?_⟩
        walk_at "rd"
        refine r_ixT (SqT.of (e' _ _ (hid_get he))) rfl ?_
        walk_at "rd"
        refine r_eqD (d := .tuple (ys.1.map PyData.str)) (e := .tuple (zs.map PyData.str)) (.tup (SqT.of (e' _ _ (hid_get hp'))) (path_dp ys.1)) (.tup (SqT.of (e' _ _ (hid_get hp))) (path_dp zs)) (path_shaped hok') (path_shaped hok) ?_
        rw [PyData.eqv, eqv_paths]
        walk_at "rd"
        by_cases h : ys.1 = zs
        · rw [decide_eq_true h]
          walk_at "rd"
          exact q1 (rowIs_t ⟨ys.2, h ▸ hrow⟩) _ (Evl.Ex.refl _)
        · rw [decide_eq_false h]
          walk_at "rd"
          exact q2 (rowIs_f fun ⟨_, g⟩ => h (hrow.inj g)) _ (Evl.Ex.refl _)
      · intro H5 e5 hM5
        have r5 := r4.bag.ex e5
        have hL5 := r5.ex _ _ hL4
        have hp5 := r5.ex _ _ hp
        have hP5 := Paired.monoP (fun _ _ q => RowV.mono (hid_mono r5.ex) q) hP4
        have hG5 := Paired.monoP (fun _ _ q => RowV.mono r5.ex q) hPG
        replace r5 := r4.trans r5
        walk_at "rd"
        refine ⟨by show 0 ≤ sizeLine; decide, fun N hN => ?_⟩
        obtain ⟨r6, hN6⟩ := r5.bag.new (o := .lst []) hN
        have hM6 := (Evl.Ex.new hN : Evl.Ex H5 (upd H5 N (.lst []))) _ _ hM5
        have hL6 := r6.ex _ _ hL5
        have hp6 := r6.ex _ _ hp5
        have hP6 := Paired.monoP (fun _ _ q => RowV.mono (hid_mono r6.ex) q) hP5
        have hG6 := Paired.monoP (fun _ _ q => RowV.mono r6.ex q) hG5
        replace r6 := r5.trans r6
        generalize upd H5 N _ = H6 at r6 hN6 hM6 hL6 hp6 hP6 hG6 ⊢
        obtain ⟨ds, d1, d2, d3⟩ := dvAll (K := K) (H := H6) (m := 3) (xs := xs.filter (rowIs K (hid b H4) ag zs)) fun v hv => by
          obtain ⟨j, hj⟩ := List.mem_iff_getElem?.mp (List.mem_filter.mp hv).1
          obtain ⟨ys, _, hrow⟩ := rowAt hG6 hj
          exact hrow.dv.mono hid_ex (Nat.le_refl _)
        have hdl := DpAll.length d1
        have hfl := List.length_filter_le (rowIs K (hid b H4) ag zs) xs
        have hsh : SeqAt.shaped (.list ds) = true := by
          unfold SeqAt.shaped
          rw [fit_lay (by rw [fit, d2, Bool.and_true]; exact decide_eq_true (by omega)), Bool.true_and, PyData.depth]
          exact decide_eq_true (by omega)
        refine r_eqD (d := .list ds) (e := .list []) (.lst (SqL.of hM6) d1) (.lst (SqL.of (hid_get hN6)) .nil) hsh (by decide) ?_
        cases hfil : xs.filter (rowIs K (hid b H4) ag zs) with
        | cons y ys =>
          rw [hfil] at hdl
          cases ds with
          | nil => cases hdl
          | cons d ds =>
            rw [PyData.eqv, PyData.eqvAll]
            walk_at "rd"
            exact ⟨xs, zss, _, _, _, rfl, hL6, hP6, hnd, by omega, r6.mono (by omega)⟩
        | nil =>
          rw [hfil] at hdl
          cases ds with
          | cons d ds => cases hdl
          | nil =>
            have hnew : zs ∉ zss.map (·.1) := fun hm => by
              obtain ⟨⟨z0, d0⟩, hm2, rfl⟩ := List.mem_map.mp hm
              obtain ⟨v, hv, hrow⟩ := rowOf hPG hm2
              have : v ∈ xs.filter (rowIs K (hid b H4) ag z0) := List.mem_filter.mpr ⟨hv, rowIs_t ⟨d0, hrow⟩⟩
              rw [hfil] at this
              cases this
            rw [PyData.eqv, PyData.eqvAll]
            walk_at "rd"
            refine r_tyL (SqL.of (hid_get hL6)) ?_
            walk_at "rd"
            refine ⟨b, D, _, rfl, r6.bag, by omega, hK.mono r6.ex, fun va H7 hva r7 => ?_⟩
            have hL7 := r7.ex _ _ hL6
            have hp7 := r7.ex _ _ hp6
            have hP7 := Paired.monoP (fun _ _ q => RowV.mono (hid_mono r7.ex) q) hP6
            obtain ⟨da, hva⟩ : ∃ da, AnsD K (nov H6 H7) va da := let ⟨d, q⟩ := hva; ⟨d, q⟩
            have hva7 := AnsD.mono (novL (b := b) (L := L) r6.bag.some (by rw [hid_get hL6]; exact fun e => by cases e)) hva
            replace r7 := r6.trans r7
            walk_at "rd"
            refine ⟨by show 2 ≤ sizeLine; decide, fun e he => ?_⟩
            obtain ⟨r8, he8⟩ := r7.bag.new (o := .tup [.ref p, va]) he
            have hL8 := r8.ex _ _ hL7
            have hp8 := r8.ex _ _ hp7
            have hP8 := Paired.monoP (fun _ _ q => RowV.mono (hid_mono r8.ex) q) hP7
            have hva8 := AnsD.mono (hid_mono r8.ex) hva7
            replace r8 := r7.trans r8
            generalize upd H7 e _ = H8 at r8 he8 hL8 hp8 hP8 hva8 ⊢
            walk_at "rd"
            refine r_app (hid_get hL8) (by rw [sizeLine_eq]; omega) ?_
            have nLe : e ≠ L := fun q => by rw [q, hL8] at he8; cases he8
            have nLp : p ≠ L := fun q => by rw [q, hL8] at hp8; cases hp8
            refine ⟨xs ++ [.ref e], zss ++ [(zs, da)], _, _, _, rfl, hid_of upd_same nLb, ?_, ?_, by rw [List.length_append, List.length_singleton]; omega, (Drw.put r8 (hid_none hL) nLb).mono (by omega)⟩
            · rw [hid_up nLb, hid_bag]
              exact Paired.snocP ⟨e, p, va, rfl, hid_of he8 nLe, hid_of hp8 nLp, hva8, hok⟩ hP8
            · rw [List.map_append, List.nodup_append]
              refine ⟨hnd, List.nodup_cons.mpr ⟨(fun h => by cases h), List.nodup_nil⟩, fun a ha c hc => ?_⟩
              have hc : c = zs := List.mem_singleton.mp hc
              rw [hc]
              exact fun q => hnew (by rw [← q]; exact ha)
    · rintro σ H3 ⟨xs, zss, w6, w7, w8, rfl, hL3, hP, hnd, hl, r3⟩
      walk_at "rd"
      exact k L xs zss _ hL3 ⟨Paired.monoP (fun _ _ q => RowV.mono hid_ex q) hP, hnd, by omega⟩ (by omega) (r3.mono (by omega))
end

abbrev N_law_copy : List Str := ["_law_pairs", "_law_path_here", "_law_answer"]
theorem sc_law_copy : FnScope N_law_copy ["_law_pairs"] (defScope s_law_copy) := ⟨rfl, rfl, rfl, by decide +kernel, rfl, by decide +kernel, by decide +kernel⟩
/-- a copied row: its tuple is new, and so is a list that answers -/
def CpV (K : PySem.W.Frag) (H H' : Hp) (ag : Bool) (v : V) (t : List Str × PyData) : Prop := ∃ (e p : Addr) (va : V), v = .ref e ∧ H e = none ∧ H' e = some (.tup [.ref p, va]) ∧ H p = some (.tup (t.1.map V.str)) ∧ AnsD K (imm H H') va t.2 ∧ PathOk ag t.1 ∧
  ((∀ ds, t.2 ≠ .list ds) ∨ ∃ (l : Addr) (vs : List V), va = .ref l ∧ H l = none ∧ H' l = some (.lst vs) ∧ vs.length ≤ 100)
theorem CpV.mono {K : PySem.W.Frag} {H H1 H2 : Hp} {ag : Bool} {v : V} {t : List Str × PyData} (x : Evl.Ex H1 H2) (h : CpV K H H1 ag v t) : CpV K H H2 ag v t := by
  obtain ⟨e, p, va, h1, h2, h3, h4, h5, h6, h7⟩ := h
  refine ⟨e, p, va, h1, h2, x _ _ h3, h4, h5.mono (imm_mono x), h6, ?_⟩
  rcases h7 with h7 | ⟨l, vs, g1, g2, g3, g4⟩
  · exact .inl h7
  · exact .inr ⟨l, vs, g1, g2, x _ _ g3, g4⟩
theorem CpV.row {K : PySem.W.Frag} {H H1 : Hp} {ag : Bool} {v : V} {t : List Str × PyData} (h : CpV K H H1 ag v t) : RowV K (imm H H1) ag v t := by
  obtain ⟨e, p, va, h1, h2, h3, h4, h5, h6, _⟩ := h
  exact ⟨e, p, va, h1, imm_new h2 h3, imm_old h4 rfl, h5, h6⟩
def spLCopy (K : PySem.W.Frag) : Sp := fun vs H Q _ => ∃ (L : Addr) (xs : List V) (ps : PTab) (ag : Bool), vs = [.ref L] ∧ SqL K H L xs ∧ Rows K H ag xs ps ∧
  ∀ (M : Addr) (ys : List V) (H' : Hp), Evl.Ex H H' → H M = none → H' M = some (.lst ys) → Paired (CpV K H (hid M H') ag) ys ps → Q (.ref M) H'
theorem Paired.len {α β : Type} {R : α → β → Prop} : ∀ {xs : List α} {ys : List β}, Paired R xs ys → xs.length = ys.length
  | _, _, .nil => rfl
  | _, _, .cons _ r => congrArg (· + 1) (Paired.len r)
theorem paired_of_get {α β : Type} {R : α → β → Prop} : ∀ {xs : List α} {ys : List β}, xs.length = ys.length → (∀ (i : Nat) (x : α), xs[i]? = some x → ∃ y, ys[i]? = some y ∧ R x y) → Paired R xs ys
  | [], [], _, _ => .nil
  | [], _ :: _, h, _ => by simp at h
  | _ :: _, [], h, _ => by simp at h
  | x :: xs, y :: ys, h, k => by
    obtain ⟨y', e, r⟩ := k 0 x rfl
    simp only [List.getElem?_cons_zero, Option.some.injEq] at e
    subst e
    exact .cons r (paired_of_get (by simpa using h) fun i z hz => by
      obtain ⟨y, e, r⟩ := k (i + 1) z (by rw [List.getElem?_cons_succ]; exact hz)
      exact ⟨y, by rw [List.getElem?_cons_succ] at e; exact e, r⟩)
section
variable {P : Program} {w : World} {K : PySem.W.Frag} {mg : Str → Option Value} {base : Heap}
theorem c_lcopy (F : At K mg "_law_copy" s_law_copy) (B : Bl mg) : Cal P w K mg base 1 "_law_copy" (spLCopy K) := by
  refine cal_of F sc_law_copy (fun vs H Q E h => ?_) (fun _ _ _ _ _ _ us hl => match us, hl with | [_], _ => rfl) (fun f cdv A outer s H vs Q E hr h => ?_)
  · obtain ⟨L, xs, ps, ag, rfl, _⟩ := h
    rfl
  · obtain ⟨L, xs, ps, ag, rfl, hL, hR, k⟩ := h
    refine ⟨_, (pss_one (ps_ret (pe_lc (own := [("_law_path_here", 1), ("_law_answer", 2)]) rfl sc_law_copy.nd (pi_any K (pv 0)) (blkOk_by (N := N_law_copy) (sc := defScope s_law_copy) (by decide +kernel)) (fun _ _ _ _ _ => (pg_tupA K (n := 2) (pg_tup rfl (pgs_cons (pg_name (i := 1) sc_law_copy.nd rfl (Or.inl rfl)) (pgs_cons (pg_name (i := 2) sc_law_copy.nd rfl (Or.inl rfl)) pgs_nil))))) (fun _ _ _ _ _ => pts_nil) (fun _ _ _ _ _ => (pe_tup (pa_cons (pv 1) (pa_cons (pe_ifExp (pt_val (pe_callB (call_isinstanceA K) rfl B.isinstance (by decide +kernel) (pa_cons (pv 2) (pa_cons (pe_bltn (v := .ty "list") rfl B.list (by decide +kernel) rfl) pa_nil)))) (pe_callTy (call_listA K) rfl B.list (by decide +kernel) (pa_cons (pv 2) pa_nil)) (pv 2)) pa_nil))))))), ?_⟩
    walk_at "rd"
    refine .inl ⟨L, rfl, ⟨_, hL⟩, fun M hM => ?_⟩
    have few := hR.few
    refine lc_GL hM hL (by omega) (fun i G v => ∃ t, ps[i]? = some t ∧ CpV K H G ag v t) (fun _ _ _ _ x ⟨t, h1, h2⟩ => ⟨t, h1, h2.mono x⟩) ?_ ?_
    · intro i x hx H2 e1 hne Q' R q'
      obtain ⟨t, ht, e, p, va, rfl, he, hp, hva, hok⟩ := rowAt hR.at_ hx
      refine r_gTup (SqT.of (e1 _ _ he)) rfl ?_
      walk_at "rd"
      have fin : ∀ (vb : V) (H3 : Hp), Evl.Ex H2 H3 → AnsD K (imm H (hid M H3)) vb t.2 → ((∀ ds, t.2 ≠ .list ds) ∨ ∃ (l : Addr) (vs : List V), vb = .ref l ∧ H l = none ∧ hid M H3 l = some (.lst vs) ∧ vs.length ≤ 100) → ∀ q, H3 q = none → Q' (.ref q) (upd H3 q (.tup [.ref p, vb])) := by
        intro vb H3 e3 hvb hl q hq
        have e4 : Evl.Ex H3 (upd H3 q (.tup [.ref p, vb])) := Evl.Ex.new hq
        have nqM : q ≠ M := fun h => ex_some e3 hne (h ▸ hq)
        have x4 := hid_mono (L := M) e4
        refine q' _ _ (e3.trans e4) ⟨t, ht, q, p, vb, rfl, ex_dom (e1.trans e3) hq, hid_of upd_same nqM, hp, hvb.mono (imm_mono x4), hok, ?_⟩
        rcases hl with hl | ⟨l, vs, g1, g2, g3, g4⟩
        · exact .inl hl
        · exact .inr ⟨l, vs, g1, g2, x4 _ _ g3, g4⟩
      refine ⟨rfl, ?_⟩
      walk_at "rd"
      obtain ⟨hd, hf, ha, ht2⟩ := hva
      generalize t.2 = d at hd hf ha ht2 fin
      cases hd with
      | @lst a0 xs0 ds0 s0 r0 =>
        refine r_isi_lst_list (Evl.ex_l e1 s0) ?_
        walk_at "rd"
        refine ⟨_, _, rfl, .inl (Evl.ex_l e1 s0), fun l hl3 => ?_⟩
        have e3 : Evl.Ex H2 (upd H2 l (.lst xs0)) := Evl.Ex.new hl3
        have nlM : l ≠ M := fun h => hne (h ▸ hl3)
        have hl0 := ex_dom e1 hl3
        have hlv : hid M (upd H2 l (.lst xs0)) l = some (.lst xs0) := hid_of upd_same nlM
        have h100 : xs0.length ≤ 100 := by
          rw [DpAll.length r0]
          exact of_decide_eq_true (Bool.and_eq_true_iff.mp (show (decide (ds0.length ≤ 100) && ds0.all tinyI) = true from ht2)).1
        walk_at "rd"
        exact ⟨by show 2 ≤ sizeLine; decide, fin _ _ e3 ⟨.lst (SqL.of (imm_new hl0 hlv)) (items_imm r0 ha), hf, ha, ht2⟩ (.inr ⟨l, xs0, rfl, hl0, hlv, h100⟩)⟩
      | tup s0 r0 =>
        refine r_isi_tup_list (Evl.ex_t e1 s0) ?_
        walk_at "rd"
        exact ⟨by show 2 ≤ sizeLine; decide, fin _ _ (Evl.Ex.refl _) ⟨ans_imm (.tup s0 r0) ha (fun _ e => by cases e), hf, ha, ht2⟩ (.inl fun _ e => by cases e)⟩
      | non => walk_at "rx"; exact ⟨by show 2 ≤ sizeLine; decide, fin _ _ (Evl.Ex.refl _) ⟨.non, hf, ha, ht2⟩ (.inl fun _ e => by cases e)⟩
      | bl k => walk_at "rx"; exact ⟨by show 2 ≤ sizeLine; decide, fin _ _ (Evl.Ex.refl _) ⟨.bl k, hf, ha, ht2⟩ (.inl fun _ e => by cases e)⟩
      | int k => walk_at "rx"; exact ⟨by show 2 ≤ sizeLine; decide, fin _ _ (Evl.Ex.refl _) ⟨.int k, hf, ha, ht2⟩ (.inl fun _ e => by cases e)⟩
      | str k => walk_at "rx"; exact ⟨by show 2 ≤ sizeLine; decide, fin _ _ (Evl.Ex.refl _) ⟨.str k, hf, ha, ht2⟩ (.inl fun _ e => by cases e)⟩
    · intro H' ys e1 hM1 hl hys
      have hlen := Paired.len hR.at_
      refine k M ys H' e1 hM hM1 (paired_of_get (by rw [hl, hlen]) fun i v hv => ?_)
      obtain ⟨t, ht, hc⟩ := hys i v hv
      exact ⟨t, ht, hc⟩
end

end WP

set_option Elab.async false
set_option linter.all false
set_option maxRecDepth 100000
set_option maxHeartbeats 4000000
namespace WP
open PySem PySem.Spec PyProof.Rows L2
local macro_rules | `(tactic| walk_at "rd") => `(tactic| repeat (first
  | with_reducible refine r_seq ?_ | with_reducible refine r_fld ?_ | with_reducible refine r_prop ?_ | with_reducible refine r_revT ?_ | with_reducible refine r_fldS ?_ | with_reducible refine r_meth ?_ | with_reducible refine r_methX ?_ | with_reducible refine r_make ?_ | with_reducible refine r_makeS ?_ | with_reducible refine r_makeKS ?_ | with_reducible refine r_dcA ?_ | with_reducible refine r_addOS ?_ | with_reducible refine r_dgetT ?_ | with_reducible refine r_dputT ?_ | with_reducible refine r_dget2T ?_ | with_reducible refine r_starT ?_ | with_reducible refine r_statT ?_ | with_reducible refine r_par3 ?_ | with_reducible refine r_callR ?_ | with_reducible refine r_callS ?_ | with_reducible refine r_mkO ?_ | with_reducible refine r_raise ?_ | with_reducible refine r_callW ?_ | with_reducible refine r_tru ?_ | with_reducible refine r_var rfl ?_ | with_reducible refine r_c ?_ | with_reducible refine r_op ?_ | with_reducible refine r_cons ?_ | with_reducible refine r_nil ?_
  | with_reducible refine r_cb ?_ | with_reducible refine r_call ?_ | with_reducible refine r_test ?_ | with_reducible refine r_B ?_ | with_reducible refine r_bl ?_ | with_reducible refine r_asg ?_ | with_reducible refine r_asgS ?_
  | with_reducible refine r_ret ?_ | with_reducible refine r_drop ?_ | with_reducible refine r_ifS ?_ | with_reducible refine r_if ?_ | with_reducible refine r_and ?_ | with_reducible refine r_or ?_ | with_reducible refine r_not ?_
  | with_reducible refine r_andV ?_ | with_reducible refine r_orV ?_ | with_reducible refine r_notV ?_ | with_reducible refine r_chain ?_ | with_reducible refine r_sl ?_ | with_reducible refine r_nopart ?_ | with_reducible refine r_part ?_ | with_reducible refine r_partN ?_ | with_reducible refine r_xv ?_ | with_reducible refine r_xo ?_ | with_reducible refine r_mkV ?_ | with_reducible refine r_forG ?_ | with_reducible refine r_listG ?_ | with_reducible refine r_methG ?_
  | with_reducible refine r_intO ?_ | with_reducible refine r_two ?_ | with_reducible refine r_m1 ?_ | with_reducible refine r_bm ?_ | with_reducible refine r_next ?_ | with_reducible refine r_gCons ?_ | with_reducible refine r_gNil ?_ | with_reducible refine r_asgT ?_ | with_reducible refine r_for ?_ | with_reducible refine r_rng1 ?_ | with_reducible refine r_iList ?_ | with_reducible refine r_iAny ?_ | with_reducible refine r_lc ?_ | with_reducible refine r_yes ?_ | with_reducible refine r_gN ?_ | with_reducible refine r_par ?_ | with_reducible refine r_un ?_ | with_reducible refine r_brk ?_ | with_reducible refine r_cont ?_
  | with_reducible refine r_I0 ?_ | with_reducible refine r_U ?_ | with_reducible refine r_addI ?_ | with_reducible refine r_abs ?_ | with_reducible refine r_intI ?_ | with_reducible refine r_max2 ?_ | with_reducible refine r_min2 ?_
  | with_reducible refine r_ltI ?_ | with_reducible refine r_leI ?_ | with_reducible refine r_gtI ?_ | with_reducible refine r_geI ?_ | with_reducible refine r_isN_non ?_ | with_reducible refine r_isN_int ?_ | with_reducible refine r_isN_str ?_ | with_reducible refine r_isN_bl ?_ | with_reducible refine r_isN_ref ?_ | with_reducible refine r_isN ?_ | with_reducible refine r_isB ?_ | with_reducible refine r_isnotN_non ?_ | with_reducible refine r_isnotN_int ?_ | with_reducible refine r_isnotN_str ?_ | with_reducible refine r_isnotN_bl ?_ | with_reducible refine r_isnotN_ref ?_ | with_reducible refine r_isnotN ?_ | with_reducible refine r_isnotB ?_
  | with_reducible refine r_inS ?_ | with_reducible refine r_eqS rfl ?_ | with_reducible refine r_neS rfl ?_ | with_reducible refine r_lst ?_ | with_reducible refine r_tup ?_ | with_reducible refine iteT ?_ | with_reducible refine iteF ?_))
local macro_rules | `(tactic| walk_at "isi") => `(tactic| (first
  | with_reducible refine r_isi_non_int ?_
  | with_reducible refine r_isi_non_str ?_
  | with_reducible refine r_isi_non_list ?_
  | with_reducible refine r_isi_non_tuple ?_
  | with_reducible refine r_isi_non_bool ?_
  | with_reducible refine r_isi_bl_int ?_
  | with_reducible refine r_isi_bl_str ?_
  | with_reducible refine r_isi_bl_list ?_
  | with_reducible refine r_isi_bl_tuple ?_
  | with_reducible refine r_isi_bl_bool ?_
  | with_reducible refine r_isi_int_int ?_
  | with_reducible refine r_isi_int_str ?_
  | with_reducible refine r_isi_int_list ?_
  | with_reducible refine r_isi_int_tuple ?_
  | with_reducible refine r_isi_int_bool ?_
  | with_reducible refine r_isi_str_int ?_
  | with_reducible refine r_isi_str_str ?_
  | with_reducible refine r_isi_str_list ?_
  | with_reducible refine r_isi_str_tuple ?_
  | with_reducible refine r_isi_str_bool ?_
  | with_reducible refine r_isi_lst_int (SqL.of (by assumption)) ?_
  | with_reducible refine r_isi_lst_str (SqL.of (by assumption)) ?_
  | with_reducible refine r_isi_lst_list (SqL.of (by assumption)) ?_
  | with_reducible refine r_isi_lst_tuple (SqL.of (by assumption)) ?_
  | with_reducible refine r_isi_lst_bool (SqL.of (by assumption)) ?_
  | with_reducible refine r_isi_tup_int (SqT.of (by assumption)) ?_
  | with_reducible refine r_isi_tup_str (SqT.of (by assumption)) ?_
  | with_reducible refine r_isi_tup_list (SqT.of (by assumption)) ?_
  | with_reducible refine r_isi_tup_tuple (SqT.of (by assumption)) ?_
  | with_reducible refine r_isi_tup_bool (SqT.of (by assumption)) ?_))
local macro_rules | `(tactic| walk_at "rs") => `(tactic| (first
  | ((with_reducible refine iteTc ?hc ?_); (case hc => rfl)) | ((with_reducible refine iteFc ?hc ?_); (case hc => rfl))
  | walk_at "isi"
  | refine r_ixL (SqL.of (by assumption)) rfl ?_ | refine r_ixL (SqL.of upd_same) rfl ?_
  | refine r_I (C := fun _ j => 0 < j) (by first | decide | assumption | omega) ?_
  | refine r_mulI (.inl ⟨by decide, by decide⟩) ?_ | refine r_mulI (.inr ⟨by decide, by decide⟩) ?_ | refine r_mulI (.inr ⟨by omega, by omega⟩) ?_ | refine r_mulI (.inl ⟨by omega, by omega⟩) ?_
  | refine r_I (wide_div (b := 64) (by decide) (by decide) (by decide) (by decide)) ?_
  | refine r_I (C := CPow) ⟨by decide, by decide, by decide⟩ ?_
  | refine r_setL (by assumption) rfl ?_ | refine r_setL upd_same rfl ?_))
local macro_rules | `(tactic| walk_at "rx") => `(tactic| (walk_at "rd"; (repeat (walk_at "rs"; walk_at "rd"))))
local macro_rules | `(tactic| walk_at "rl") => `(tactic| repeat (first
  | with_reducible refine r_seq ?_ | with_reducible refine r_fld ?_ | with_reducible refine r_prop ?_ | with_reducible refine r_revT ?_ | with_reducible refine r_fldS ?_ | with_reducible refine r_meth ?_ | with_reducible refine r_methX ?_ | with_reducible refine r_make ?_ | with_reducible refine r_makeS ?_ | with_reducible refine r_makeKS ?_ | with_reducible refine r_dcA ?_ | with_reducible refine r_addOS ?_ | with_reducible refine r_dgetT ?_ | with_reducible refine r_dputT ?_ | with_reducible refine r_dget2T ?_ | with_reducible refine r_starT ?_ | with_reducible refine r_statT ?_ | with_reducible refine r_par3 ?_ | with_reducible refine r_callR ?_ | with_reducible refine r_callS ?_ | with_reducible refine r_mkO ?_ | with_reducible refine r_raise ?_ | with_reducible refine r_callW ?_ | with_reducible refine r_tru ?_ | with_reducible refine r_var rfl ?_ | with_reducible refine r_c ?_ | with_reducible refine r_op ?_ | with_reducible refine r_cons ?_ | with_reducible refine r_nil ?_
  | with_reducible refine r_cb ?_ | with_reducible refine r_call ?_ | with_reducible refine r_test ?_ | with_reducible refine r_B ?_ | with_reducible refine r_bl ?_ | with_reducible refine r_asg ?_ | with_reducible refine r_asgS ?_
  | with_reducible refine r_ret ?_ | with_reducible refine r_drop ?_ | with_reducible refine r_ifS ?_ | with_reducible refine r_if ?_ | with_reducible refine r_and ?_ | with_reducible refine r_or ?_ | with_reducible refine r_not ?_
  | with_reducible refine r_andV ?_ | with_reducible refine r_orV ?_ | with_reducible refine r_notV ?_ | with_reducible refine r_chain ?_ | with_reducible refine r_sl ?_ | with_reducible refine r_nopart ?_ | with_reducible refine r_part ?_ | with_reducible refine r_partN ?_ | with_reducible refine r_xv ?_ | with_reducible refine r_xo ?_ | with_reducible refine r_mkV ?_ | with_reducible refine r_forG ?_ | with_reducible refine r_listG ?_ | with_reducible refine r_methG ?_
  | with_reducible refine r_intO ?_ | with_reducible refine r_two ?_ | with_reducible refine r_m1 ?_ | with_reducible refine r_bm ?_ | with_reducible refine r_next ?_ | with_reducible refine r_gCons ?_ | with_reducible refine r_gNil ?_ | with_reducible refine r_asgT ?_ | with_reducible refine r_for ?_ | with_reducible refine r_rng1 ?_ | with_reducible refine r_iList ?_ | with_reducible refine r_iAny ?_ | with_reducible refine r_lc ?_ | with_reducible refine r_yes ?_ | with_reducible refine r_gN ?_ | with_reducible refine r_par ?_ | with_reducible refine r_un ?_ | with_reducible refine r_brk ?_ | with_reducible refine r_cont ?_
  | with_reducible refine r_I0 ?_ | with_reducible refine r_U ?_ | with_reducible refine r_addI ?_ | with_reducible refine r_abs ?_ | with_reducible refine r_intI ?_ | with_reducible refine r_max2 ?_ | with_reducible refine r_min2 ?_
  | with_reducible refine r_ltI ?_ | with_reducible refine r_leI ?_ | with_reducible refine r_gtI ?_ | with_reducible refine r_geI ?_ | with_reducible refine r_isN_non ?_ | with_reducible refine r_isN_int ?_ | with_reducible refine r_isN_str ?_ | with_reducible refine r_isN_bl ?_ | with_reducible refine r_isN_ref ?_ | with_reducible refine r_isN ?_ | with_reducible refine r_isB ?_ | with_reducible refine r_isnotN_non ?_ | with_reducible refine r_isnotN_int ?_ | with_reducible refine r_isnotN_str ?_ | with_reducible refine r_isnotN_bl ?_ | with_reducible refine r_isnotN_ref ?_ | with_reducible refine r_isnotN ?_ | with_reducible refine r_isnotB ?_
  | with_reducible refine r_inS ?_ | with_reducible refine r_eqS rfl ?_ | with_reducible refine r_neS rfl ?_ | with_reducible refine iteT ?_ | with_reducible refine iteF ?_))
local macro_rules | `(tactic| walk_at "bld") => `(tactic| repeat' (first
  | exact bldA_nil | refine bldA_cons ?_ ?_ | refine bld_tup ?_ | refine bld_lst ?_ | exact bld_str | exact bld_int | exact bld_non | exact bld_bl | refine bld_mul ?_ (mulOk_w (by decide) (by decide) (by decide +kernel)) | refine bld_add ?_ ?_ ?_))

abbrev N_Part_entries : List Str := ["self", "path"]
theorem sc_Part_entries : FnScope N_Part_entries ["self"] (defScope s_Part_entries) := ⟨rfl, rfl, rfl, by decide +kernel, rfl, by decide +kernel, by decide +kernel⟩
def spEntries (K : PySem.W.Frag) (C : Addr) : Sp := fun vs H Q _ => ∃ (x : Addr) (ag : Bool) (tab : PTab), vs = [.ref x] ∧ PartO K C H x ag tab ∧ ∀ (v : V) (H' : Hp), Evl.Ex H H' → Dp K (imm H H') v (tabP tab) → Q v H'
section
variable {P : Program} {w : World} {K : PySem.W.Frag} {mg : Str → Option Value} {base : Heap} {C : Addr}
theorem dp_rows {G : Hp} : ∀ {vs : List V} {t : PTab}, vs.length = t.length → (∀ (i : Nat) (v : V), vs[i]? = some v → ∃ x, t[i]? = some x ∧ Dp K G v (rowP x)) → DpAll K G vs (t.map rowP)
  | [], [], _, _ => .nil
  | [], _ :: _, h, _ => by simp at h
  | _ :: _, [], h, _ => by simp at h
  | v :: vs, x :: t, h, k => by
    obtain ⟨y, e, d⟩ := k 0 v rfl
    simp only [List.getElem?_cons_zero, Option.some.injEq] at e
    subst e
    exact .cons d (dp_rows (by simpa using h) fun i u hu => by
      obtain ⟨y, e, d⟩ := k (i + 1) u (by rw [List.getElem?_cons_succ]; exact hu)
      exact ⟨y, by rw [List.getElem?_cons_succ] at e; exact e, d⟩)
theorem c_Part_entries_ (F : AtP K C "entries" "Part.entries" s_Part_entries) (B : Bl mg) (T : PartT K C) (c_copy_of : Cal P w K mg base 1 "copy_of" (spCopy K)) : CalP P w K mg base L2.CX0 2 C "entries" (spEntries K C) := by
  refine calP_of F sc_Part_entries (fun vs H Q E h => ?_) (fun _ _ _ _ _ _ us hl => match us, hl with | [_], _ => rfl) (fun f cdv A outer s H vs Q E hr h => ?_)
  · obtain ⟨x, ag, tab, rfl, _⟩ := h
    rfl
  · obtain ⟨x, ag, tab, rfl, hP, k⟩ := h
    obtain ⟨⟨dx, Tb, kvs, hx, hT, hkv⟩, asc, ok, few⟩ := hP
    have nxT : x ≠ Tb := fun e => by rw [e, hT] at hx; cases hx
    have hkl := hkv.len
    refine ⟨_, (pss_one (ps_ret (pe_callTy (call_tupleA K) rfl B.tuple (by decide +kernel) (pa_cons (pe_lock (pe_lc (own := [("path", 1)]) rfl sc_Part_entries.nd (pi_keys (pe_fldA K (pv 0))) (blkOk_by (N := N_Part_entries) (sc := defScope s_Part_entries) (by decide +kernel)) (fun _ _ _ _ _ => (pg_name (i := 1) sc_Part_entries.nd rfl (Or.inl rfl))) (fun _ _ _ _ _ => pts_nil) (fun _ _ _ _ _ => (pe_tup (pa_cons (pv 1) (pa_cons (pe_cA c_copy_of hr (by omega) rfl (pa_cons (pe_dget (hu_of hr) (pe_fldA K (pv 0)) (pv 1) (fun _ _ => rfl)) pa_nil)) pa_nil)))))) pa_nil)))), ?_⟩
    walk_at "rd"
    refine lock_lc hT (fun od R q => ?_) (by omega) (fun i G v => ∃ t, tab[i]? = some t ∧ Dp K (imm H G) v (rowP t)) (fun i G G' v e ⟨t, h1, h2⟩ => ⟨t, h1, Dp.mono (imm_mono e) h2⟩) (fun _ => rfl) ?_ ?_
    · walk_at "rd"
      refine ⟨x, C, dx, _, .ref Tb, rfl, by rw [upd_ne nxT]; exact hx, T.cl, T.nT, rfl, q⟩
    · intro i key v od q D acc H' hk e0 hT' hq hD Q' q'
      obtain ⟨t, ht, rfl, hdp⟩ := hkv.get hk
      have hx' : H' x = some (.ins C dx [("ageing", .bl ag), ("table", .ref Tb)]) := e0 _ _ (hid_of hx nxT)
      have hval : valV kvs (kvOf t.1) = some v := hkv.at asc.nodup (List.mem_of_getElem? hk)
      have okt := ok t (List.mem_of_getElem? ht)
      walk_at "rd"
      refine ⟨x, C, dx, _, .ref Tb, rfl, hx', T.cl, T.nT, rfl, ?_⟩
      walk_at "rd"
      refine ⟨Tb, v, rfl, .inr ⟨kvs, kvOf t.1, q, .inr ⟨od, hT'⟩, rfl, hq, hval.symm⟩, ?_⟩
      walk_at "rd"
      refine ⟨v, t.2, rfl, Dp.mono e0 (Dp.hidM hT rfl hdp), okt.1.an, fun v' H3 e3 hv' _ => ?_⟩
      walk_at "rd"
      refine ⟨by show 2 ≤ sizeLine; decide, fun a ha => ?_⟩
      have e4 : Evl.Ex H3 (upd H3 a (.tup [.ref q, v'])) := Evl.Ex.new ha
      have hqs : H' q = some (.tup (t.1.map V.str)) := by rw [hq, kvOf_kV]
      refine q' _ _ (e3.trans e4) ⟨t, ht, ?_⟩
      have naD : a ≠ D := fun e => by rw [e, e3 _ _ hD] at ha; cases ha
      have naT : a ≠ Tb := fun e => by rw [e, e3 _ _ hT'] at ha; cases ha
      have ha0 : imm H (turnH Tb D kvs (upd H3 a (.tup [.ref q, v']))) a = some (.tup [.ref q, v']) := by
        refine imm_new ?_ (turnH_get naT naD upd_same)
        cases o : H a with
        | none => rfl
        | some o' => rw [e3 _ _ (e0 _ _ (hid_of o naT))] at ha; cases ha
      have x3 : Evl.Ex (hid Tb (imm H' H3)) (imm H (turnH Tb D kvs (upd H3 a (.tup [.ref q, v'])))) := imm_lock e0 (by rw [hT']; exact fun e => by cases e) hD e3 fun c o h1 h2 h3 => turnH_get h1 h2 (e4 _ _ h3)
      have nqT : q ≠ Tb := fun e => by rw [e, hT'] at hqs; cases hqs
      have hq0 := x3 _ _ (hid_of (imm_old (H' := H3) hqs rfl) nqT)
      have hTi : imm H' H3 Tb = some (.frz od (.dT kvs)) := imm_old hT' rfl
      exact .tup (SqT.of ha0) (.cons (.tup (SqT.of hq0) (path_dp t.1)) (.cons (Dp.mono x3 (Dp.hidM hTi rfl hv')) .nil))
    · intro D ys H' e1 hD hD1 hl hys
      refine ⟨D, ys, rfl, .inl ⟨SqL.of hD1, fun a ha => ?_⟩⟩
      have e2 : Evl.Ex H' (upd H' a (.tup ys)) := Evl.Ex.new ha
      refine k _ _ (e1.trans e2) (.tup (SqT.of (imm_new (ex_dom e1 ha) upd_same)) (dp_rows (by rw [hl, hkl]) fun i v hv => ?_))
      obtain ⟨t, ht, hd⟩ := hys i v hv
      exact ⟨t, ht, Dp.mono (imm_mono (hid_ex.trans e2)) hd⟩
end

abbrev N_Part_weight : List Str := ["self", "path"]
theorem sc_Part_weight : FnScope N_Part_weight ["self"] (defScope s_Part_weight) := ⟨rfl, rfl, rfl, by decide +kernel, rfl, by decide +kernel, by decide +kernel⟩
abbrev N_Part_len : List Str := ["self"]
theorem sc_Part_len : FnScope N_Part_len ["self"] (defScope s_Part_len) := ⟨rfl, rfl, rfl, by decide +kernel, rfl, by decide +kernel, by decide +kernel⟩
abbrev N_Part_eq : List Str := ["self", "other"]
theorem sc_Part_eq : FnScope N_Part_eq ["self", "other"] (defScope s_Part_eq) := ⟨rfl, rfl, rfl, by decide +kernel, rfl, by decide +kernel, by decide +kernel⟩
def wtT (t : PTab) : Int := (t.map fun x => ((wtD x.2 : Nat) : Int)).sum
def spPWt (K : PySem.W.Frag) (C : Addr) : Sp := fun vs H Q _ => ∃ (x : Addr) (ag : Bool) (tab : PTab), vs = [.ref x] ∧ PartO K C H x ag tab ∧ ∀ H', Evl.Ex H H' → Q (.int (wtT tab)) H'
def spPLen (K : PySem.W.Frag) (C : Addr) : Sp := fun vs H Q _ => ∃ (x : Addr) (ag : Bool) (tab : PTab), vs = [.ref x] ∧ PartO K C H x ag tab ∧ ∀ H', Evl.Ex H H' → Q (.int (tab.length : Nat)) H'
def spPEq (K : PySem.W.Frag) (C : Addr) : Sp := fun vs H Q _ => ∃ (x : Addr) (ag : Bool) (tab : PTab) (v : V), vs = [.ref x, v] ∧ PartO K C H x ag tab ∧
  ((∃ d, Dp K H v d ∧ ∀ H', Evl.Ex H H' → Q (.bl false) H') ∨ ∃ (y : Addr) (ag' : Bool) (tab' : PTab), v = .ref y ∧ PartO K C H y ag' tab' ∧ ∀ (r : Bool) (H' : Hp), Evl.Ex H H' → (r = true ↔ ag = ag' ∧ tab = tab') → Q (.bl r) H')
section
variable {P : Program} {w : World} {K : PySem.W.Frag} {mg : Str → Option Value} {base : Heap} {C : Addr}
theorem c_Part_weight_ (F : AtP K C "weight" "Part.weight" s_Part_weight) (B : Bl mg) (T : PartT K C) (f_sum : mg "sum" = none) (c_weight : Cal P w K mg base 1 "weight_answers" (spWt K)) : CalP P w K mg base L2.CX0 2 C "weight" (spPWt K C) := by
  refine calP_of F sc_Part_weight (fun vs H Q E h => ?_) (fun _ _ _ _ _ _ us hl => match us, hl with | [_], _ => rfl) (fun f cdv A outer s H vs Q E hr h => ?_)
  · obtain ⟨x, ag, tab, rfl, _⟩ := h
    rfl
  · obtain ⟨x, ag, tab, rfl, hP, k⟩ := h
    obtain ⟨⟨dx, Tb, kvs, hx, hT, hkv⟩, asc, ok, few⟩ := hP
    have nxT : x ≠ Tb := fun e => by rw [e, hT] at hx; cases hx
    have hkl := hkv.len
    refine ⟨_, (pss_one (ps_ret (pe_callB (cr_sumA K rfl) rfl f_sum (by decide +kernel) (pa_cons (pe_lock (pe_lc (own := [("path", 1)]) rfl sc_Part_weight.nd (pi_keys (pe_fldA K (pv 0))) (blkOk_by (N := N_Part_weight) (sc := defScope s_Part_weight) (by decide +kernel)) (fun _ _ _ _ _ => (pg_name (i := 1) sc_Part_weight.nd rfl (Or.inl rfl))) (fun _ _ _ _ _ => pts_nil) (fun _ _ _ _ _ => (pe_cA c_weight hr (by omega) rfl (pa_cons (pe_dget (hu_of hr) (pe_fldA K (pv 0)) (pv 1) (fun _ _ => rfl)) pa_nil))))) pa_nil)))), ?_⟩
    walk_at "rd"
    refine lock_lc hT (fun od R q => ?_) (by omega) (fun i G v => ∃ t, tab[i]? = some t ∧ v = .int (wtD t.2 : Nat)) (fun i G G' v e h => h) (fun _ => rfl) ?_ ?_
    · walk_at "rd"
      refine ⟨x, C, dx, _, .ref Tb, rfl, by rw [upd_ne nxT]; exact hx, T.cl, T.nT, rfl, q⟩
    · intro i key v od q D acc H' hk e0 hT' hq hD Q' q'
      obtain ⟨t, ht, rfl, hdp⟩ := hkv.get hk
      have hx' : H' x = some (.ins C dx [("ageing", .bl ag), ("table", .ref Tb)]) := e0 _ _ (hid_of hx nxT)
      have hval : valV kvs (kvOf t.1) = some v := hkv.at asc.nodup (List.mem_of_getElem? hk)
      walk_at "rd"
      refine ⟨x, C, dx, _, .ref Tb, rfl, hx', T.cl, T.nT, rfl, ?_⟩
      walk_at "rd"
      refine ⟨Tb, v, rfl, .inr ⟨kvs, kvOf t.1, q, .inr ⟨od, hT'⟩, rfl, hq, hval.symm⟩, ?_⟩
      walk_at "rd"
      exact ⟨v, t.2, rfl, Dp.mono e0 (Dp.hidM hT rfl hdp), fun H3 e3 => q' _ _ e3 ⟨t, ht, rfl⟩⟩
    · intro D ys H' e1 hD hD1 hl hys
      have ey : ys = (tab.map fun t => ((wtD t.2 : Nat) : Int)).map V.int := by
        rw [List.map_map]
        exact map_of (by rw [hl, hkl]) hys
      exact ⟨D, _, rfl, SqL.of (by rw [← ey]; exact hD1), k _ e1⟩
theorem c_Part_len_ (F : AtM K C "__len__" "Part.__len__" s_Part_len) (B : Bl mg) (T : PartT K C) : CalM P w K mg base L2.CX0 1 C "__len__" (spPLen K C) := by
  refine calM_of F sc_Part_len (fun vs H Q E h => ?_) (fun _ _ _ _ _ _ us hl => match us, hl with | [_], _ => rfl) (fun f cdv A outer s H vs Q E hr h => ?_)
  · obtain ⟨x, ag, tab, rfl, _⟩ := h
    rfl
  · obtain ⟨x, ag, tab, rfl, hP, k⟩ := h
    obtain ⟨⟨dx, Tb, kvs, hx, hT, hkv⟩, asc, ok, few⟩ := hP
    refine ⟨_, (pss_one (ps_ret (pe_callB call_len_dT rfl B.len (by decide +kernel) (pa_cons (pe_fldA K (pv 0)) pa_nil)))), ?_⟩
    walk_at "rd"
    refine ⟨x, C, dx, _, .ref Tb, rfl, hx, T.cl, T.nT, rfl, ?_⟩
    walk_at "rd"
    refine ⟨Tb, kvs, rfl, hT, ?_⟩
    rw [hkv.len]
    exact k _ (Evl.Ex.refl _)
theorem c_Part_eq_ (F : AtM K C "__eq__" "Part.__eq__" s_Part_eq) (B : Bl mg) (T : PartT K C) (CT : ClsT K C) (g_Part : ∃ u, mg "Part" = some u ∧ RelV (.ref C) u) (cl_Part : Cls K C) (c_Part_entries : CalP P w K mg base L2.CX0 2 C "entries" (spEntries K C)) : CalM P w K mg base L2.CX0 4 C "__eq__" (spPEq K C) := by
  refine calM_of F sc_Part_eq (fun vs H Q E h => ?_) (fun _ _ _ _ _ _ us hl => match us, hl with | [_, _], _ => rfl) (fun f cdv A outer s H vs Q E hr h => ?_)
  · obtain ⟨x, ag, tab, v, rfl, _⟩ := h
    rfl
  · obtain ⟨x, ag, tab, v, rfl, hP, h⟩ := h
    obtain ⟨⟨dx, Tb, kvs, hx, hT, hkv⟩, asc, ok, few⟩ := id hP
    refine ⟨_, (pss_one (ps_ret (pe_and (pe_callB (call_isinstanceA K) rfl B.isinstance (by decide +kernel) (pa_cons (pv 1) (pa_cons (C8.pe_gc rfl g_Part) pa_nil))) (pe_and (pe_cmpR (op_eqA K hr.units) (pe_fldA K (pv 0)) (pe_fldA K (pv 1)) (nomark _)) (pe_one (pe_cmpR (op_eqA K hr.units) (pe_cP c_Part_entries hr (by omega) cl_Part L2.pass0 (pv 0)) (pe_cP c_Part_entries hr (by omega) cl_Part L2.pass0 (pv 1)) (nomark _))))))), ?_⟩
    walk_at "rd"
    rcases h with ⟨d, hd, k⟩ | ⟨y, ag', tab', rfl, hP', k⟩
    · refine CT.isn hd ?_
      walk_at "rd"
      exact k _ (Evl.Ex.refl _)
    · obtain ⟨⟨dy, Tc, kvs', hy, hT', hkv'⟩, asc', ok', few'⟩ := id hP'
      refine CT.isi T.cl hy ?_
      walk_at "rd"
      refine ⟨x, C, dx, _, .bl ag, rfl, hx, T.cl, T.nA, rfl, ?_⟩
      walk_at "rd"
      refine ⟨y, C, dy, _, .bl ag', rfl, hy, T.cl, T.nA, rfl, ?_⟩
      walk_at "rd"
      refine iteD (fun ha => ?_) (fun ha => ?_)
      · injection ha with ha
        walk_at "rd"
        refine ⟨x, dx, _, rfl, hx, x, ag, tab, rfl, hP, fun v1 H1 e1 hv1 => ?_⟩
        walk_at "rd"
        refine ⟨y, dy, _, rfl, e1 _ _ hy, y, ag', tab', rfl, hP'.mono e1, fun v2 H2 e2 hv2 => ?_⟩
        refine r_eqD (Dp.mono ((imm_ex e1).trans e2) hv1) (Dp.mono (imm_ex e2) hv2) (tab_shaped (fun t ht => (ok t ht).1) few) (tab_shaped (fun t ht => (ok' t ht).1) few') ?_
        refine k _ _ (e1.trans e2) ?_
        rw [eqv_tabB (fun t ht => (ok t ht).1.an) (fun t ht => (ok' t ht).1.an)]
        exact ⟨fun h => ⟨ha, h⟩, fun h => h.2⟩
      · exact k false _ (Evl.Ex.refl _) ⟨fun h => (by cases h), fun h => absurd (congrArg V.bl h.1) ha⟩
end

end WP

set_option Elab.async false
set_option linter.all false
set_option maxRecDepth 100000
set_option maxHeartbeats 4000000
namespace WP
open PySem PySem.Spec PyProof.Rows L2
local macro_rules | `(tactic| walk_at "rd") => `(tactic| repeat (first
  | with_reducible refine r_seq ?_ | with_reducible refine r_fld ?_ | with_reducible refine r_prop ?_ | with_reducible refine r_revT ?_ | with_reducible refine r_fldS ?_ | with_reducible refine r_meth ?_ | with_reducible refine r_methX ?_ | with_reducible refine r_make ?_ | with_reducible refine r_makeS ?_ | with_reducible refine r_makeKS ?_ | with_reducible refine r_dcA ?_ | with_reducible refine r_addOS ?_ | with_reducible refine r_dgetT ?_ | with_reducible refine r_dputT ?_ | with_reducible refine r_dget2T ?_ | with_reducible refine r_starT ?_ | with_reducible refine r_statT ?_ | with_reducible refine r_par3 ?_ | with_reducible refine r_callR ?_ | with_reducible refine r_callS ?_ | with_reducible refine r_mkO ?_ | with_reducible refine r_raise ?_ | with_reducible refine r_callW ?_ | with_reducible refine r_tru ?_ | with_reducible refine r_var rfl ?_ | with_reducible refine r_c ?_ | with_reducible refine r_op ?_ | with_reducible refine r_cons ?_ | with_reducible refine r_nil ?_
  | with_reducible refine r_cb ?_ | with_reducible refine r_call ?_ | with_reducible refine r_test ?_ | with_reducible refine r_B ?_ | with_reducible refine r_bl ?_ | with_reducible refine r_asg ?_ | with_reducible refine r_asgS ?_
  | with_reducible refine r_ret ?_ | with_reducible refine r_drop ?_ | with_reducible refine r_ifS ?_ | with_reducible refine r_if ?_ | with_reducible refine r_and ?_ | with_reducible refine r_or ?_ | with_reducible refine r_not ?_
  | with_reducible refine r_andV ?_ | with_reducible refine r_orV ?_ | with_reducible refine r_notV ?_ | with_reducible refine r_chain ?_ | with_reducible refine r_sl ?_ | with_reducible refine r_nopart ?_ | with_reducible refine r_part ?_ | with_reducible refine r_partN ?_ | with_reducible refine r_xv ?_ | with_reducible refine r_xo ?_ | with_reducible refine r_mkV ?_ | with_reducible refine r_forG ?_ | with_reducible refine r_listG ?_ | with_reducible refine r_methG ?_
  | with_reducible refine r_intO ?_ | with_reducible refine r_two ?_ | with_reducible refine r_m1 ?_ | with_reducible refine r_bm ?_ | with_reducible refine r_next ?_ | with_reducible refine r_gCons ?_ | with_reducible refine r_gNil ?_ | with_reducible refine r_asgT ?_ | with_reducible refine r_for ?_ | with_reducible refine r_rng1 ?_ | with_reducible refine r_iList ?_ | with_reducible refine r_iAny ?_ | with_reducible refine r_lc ?_ | with_reducible refine r_yes ?_ | with_reducible refine r_gN ?_ | with_reducible refine r_par ?_ | with_reducible refine r_un ?_ | with_reducible refine r_brk ?_ | with_reducible refine r_cont ?_
  | with_reducible refine r_I0 ?_ | with_reducible refine r_U ?_ | with_reducible refine r_addI ?_ | with_reducible refine r_abs ?_ | with_reducible refine r_intI ?_ | with_reducible refine r_max2 ?_ | with_reducible refine r_min2 ?_
  | with_reducible refine r_ltI ?_ | with_reducible refine r_leI ?_ | with_reducible refine r_gtI ?_ | with_reducible refine r_geI ?_ | with_reducible refine r_isN_non ?_ | with_reducible refine r_isN_int ?_ | with_reducible refine r_isN_str ?_ | with_reducible refine r_isN_bl ?_ | with_reducible refine r_isN_ref ?_ | with_reducible refine r_isN ?_ | with_reducible refine r_isB ?_ | with_reducible refine r_isnotN_non ?_ | with_reducible refine r_isnotN_int ?_ | with_reducible refine r_isnotN_str ?_ | with_reducible refine r_isnotN_bl ?_ | with_reducible refine r_isnotN_ref ?_ | with_reducible refine r_isnotN ?_ | with_reducible refine r_isnotB ?_
  | with_reducible refine r_inS ?_ | with_reducible refine r_eqS rfl ?_ | with_reducible refine r_neS rfl ?_ | with_reducible refine r_lst ?_ | with_reducible refine r_tup ?_ | with_reducible refine iteT ?_ | with_reducible refine iteF ?_))
local macro_rules | `(tactic| walk_at "isi") => `(tactic| (first
  | with_reducible refine r_isi_non_int ?_
  | with_reducible refine r_isi_non_str ?_
  | with_reducible refine r_isi_non_list ?_
  | with_reducible refine r_isi_non_tuple ?_
  | with_reducible refine r_isi_non_bool ?_
  | with_reducible refine r_isi_bl_int ?_
  | with_reducible refine r_isi_bl_str ?_
  | with_reducible refine r_isi_bl_list ?_
  | with_reducible refine r_isi_bl_tuple ?_
  | with_reducible refine r_isi_bl_bool ?_
  | with_reducible refine r_isi_int_int ?_
  | with_reducible refine r_isi_int_str ?_
  | with_reducible refine r_isi_int_list ?_
  | with_reducible refine r_isi_int_tuple ?_
  | with_reducible refine r_isi_int_bool ?_
  | with_reducible refine r_isi_str_int ?_
  | with_reducible refine r_isi_str_str ?_
  | with_reducible refine r_isi_str_list ?_
  | with_reducible refine r_isi_str_tuple ?_
  | with_reducible refine r_isi_str_bool ?_
  | with_reducible refine r_isi_lst_int (SqL.of (by assumption)) ?_
  | with_reducible refine r_isi_lst_str (SqL.of (by assumption)) ?_
  | with_reducible refine r_isi_lst_list (SqL.of (by assumption)) ?_
  | with_reducible refine r_isi_lst_tuple (SqL.of (by assumption)) ?_
  | with_reducible refine r_isi_lst_bool (SqL.of (by assumption)) ?_
  | with_reducible refine r_isi_tup_int (SqT.of (by assumption)) ?_
  | with_reducible refine r_isi_tup_str (SqT.of (by assumption)) ?_
  | with_reducible refine r_isi_tup_list (SqT.of (by assumption)) ?_
  | with_reducible refine r_isi_tup_tuple (SqT.of (by assumption)) ?_
  | with_reducible refine r_isi_tup_bool (SqT.of (by assumption)) ?_))
local macro_rules | `(tactic| walk_at "rs") => `(tactic| (first
  | ((with_reducible refine iteTc ?hc ?_); (case hc => rfl)) | ((with_reducible refine iteFc ?hc ?_); (case hc => rfl))
  | walk_at "isi"
  | refine r_ixL (SqL.of (by assumption)) rfl ?_ | refine r_ixL (SqL.of upd_same) rfl ?_
  | refine r_I (C := fun _ j => 0 < j) (by first | decide | assumption | omega) ?_
  | refine r_mulI (.inl ⟨by decide, by decide⟩) ?_ | refine r_mulI (.inr ⟨by decide, by decide⟩) ?_ | refine r_mulI (.inr ⟨by omega, by omega⟩) ?_ | refine r_mulI (.inl ⟨by omega, by omega⟩) ?_
  | refine r_I (wide_div (b := 64) (by decide) (by decide) (by decide) (by decide)) ?_
  | refine r_I (C := CPow) ⟨by decide, by decide, by decide⟩ ?_
  | refine r_setL (by assumption) rfl ?_ | refine r_setL upd_same rfl ?_))
local macro_rules | `(tactic| walk_at "rx") => `(tactic| (walk_at "rd"; (repeat (walk_at "rs"; walk_at "rd"))))
local macro_rules | `(tactic| walk_at "rl") => `(tactic| repeat (first
  | with_reducible refine r_seq ?_ | with_reducible refine r_fld ?_ | with_reducible refine r_prop ?_ | with_reducible refine r_revT ?_ | with_reducible refine r_fldS ?_ | with_reducible refine r_meth ?_ | with_reducible refine r_methX ?_ | with_reducible refine r_make ?_ | with_reducible refine r_makeS ?_ | with_reducible refine r_makeKS ?_ | with_reducible refine r_dcA ?_ | with_reducible refine r_addOS ?_ | with_reducible refine r_dgetT ?_ | with_reducible refine r_dputT ?_ | with_reducible refine r_dget2T ?_ | with_reducible refine r_starT ?_ | with_reducible refine r_statT ?_ | with_reducible refine r_par3 ?_ | with_reducible refine r_callR ?_ | with_reducible refine r_callS ?_ | with_reducible refine r_mkO ?_ | with_reducible refine r_raise ?_ | with_reducible refine r_callW ?_ | with_reducible refine r_tru ?_ | with_reducible refine r_var rfl ?_ | with_reducible refine r_c ?_ | with_reducible refine r_op ?_ | with_reducible refine r_cons ?_ | with_reducible refine r_nil ?_
  | with_reducible refine r_cb ?_ | with_reducible refine r_call ?_ | with_reducible refine r_test ?_ | with_reducible refine r_B ?_ | with_reducible refine r_bl ?_ | with_reducible refine r_asg ?_ | with_reducible refine r_asgS ?_
  | with_reducible refine r_ret ?_ | with_reducible refine r_drop ?_ | with_reducible refine r_ifS ?_ | with_reducible refine r_if ?_ | with_reducible refine r_and ?_ | with_reducible refine r_or ?_ | with_reducible refine r_not ?_
  | with_reducible refine r_andV ?_ | with_reducible refine r_orV ?_ | with_reducible refine r_notV ?_ | with_reducible refine r_chain ?_ | with_reducible refine r_sl ?_ | with_reducible refine r_nopart ?_ | with_reducible refine r_part ?_ | with_reducible refine r_partN ?_ | with_reducible refine r_xv ?_ | with_reducible refine r_xo ?_ | with_reducible refine r_mkV ?_ | with_reducible refine r_forG ?_ | with_reducible refine r_listG ?_ | with_reducible refine r_methG ?_
  | with_reducible refine r_intO ?_ | with_reducible refine r_two ?_ | with_reducible refine r_m1 ?_ | with_reducible refine r_bm ?_ | with_reducible refine r_next ?_ | with_reducible refine r_gCons ?_ | with_reducible refine r_gNil ?_ | with_reducible refine r_asgT ?_ | with_reducible refine r_for ?_ | with_reducible refine r_rng1 ?_ | with_reducible refine r_iList ?_ | with_reducible refine r_iAny ?_ | with_reducible refine r_lc ?_ | with_reducible refine r_yes ?_ | with_reducible refine r_gN ?_ | with_reducible refine r_par ?_ | with_reducible refine r_un ?_ | with_reducible refine r_brk ?_ | with_reducible refine r_cont ?_
  | with_reducible refine r_I0 ?_ | with_reducible refine r_U ?_ | with_reducible refine r_addI ?_ | with_reducible refine r_abs ?_ | with_reducible refine r_intI ?_ | with_reducible refine r_max2 ?_ | with_reducible refine r_min2 ?_
  | with_reducible refine r_ltI ?_ | with_reducible refine r_leI ?_ | with_reducible refine r_gtI ?_ | with_reducible refine r_geI ?_ | with_reducible refine r_isN_non ?_ | with_reducible refine r_isN_int ?_ | with_reducible refine r_isN_str ?_ | with_reducible refine r_isN_bl ?_ | with_reducible refine r_isN_ref ?_ | with_reducible refine r_isN ?_ | with_reducible refine r_isB ?_ | with_reducible refine r_isnotN_non ?_ | with_reducible refine r_isnotN_int ?_ | with_reducible refine r_isnotN_str ?_ | with_reducible refine r_isnotN_bl ?_ | with_reducible refine r_isnotN_ref ?_ | with_reducible refine r_isnotN ?_ | with_reducible refine r_isnotB ?_
  | with_reducible refine r_inS ?_ | with_reducible refine r_eqS rfl ?_ | with_reducible refine r_neS rfl ?_ | with_reducible refine iteT ?_ | with_reducible refine iteF ?_))
local macro_rules | `(tactic| walk_at "bld") => `(tactic| repeat' (first
  | exact bldA_nil | refine bldA_cons ?_ ?_ | refine bld_tup ?_ | refine bld_lst ?_ | exact bld_str | exact bld_int | exact bld_non | exact bld_bl | refine bld_mul ?_ (mulOk_w (by decide) (by decide) (by decide +kernel)) | refine bld_add ?_ ?_ ?_))

abbrev N_law_weight : List Str := ["_law_answer"]
theorem sc_law_weight : FnScope N_law_weight ["_law_answer"] (defScope s_law_weight) := ⟨rfl, rfl, rfl, by decide +kernel, rfl, by decide +kernel, by decide +kernel⟩
def spLWt (K : PySem.W.Frag) : Sp := fun vs H Q _ => ∃ (v : V) (d : PyData), vs = [v] ∧ Dp K H v d ∧ ∀ H', Evl.Ex H H' → Q (.int (wtD d : Nat)) H'
section
variable {P : Program} {w : World} {K : PySem.W.Frag} {mg : Str → Option Value} {base : Heap}
theorem c_lweight (F : At K mg "_law_weight" s_law_weight) (B : Bl mg) : Cal P w K mg base 1 "_law_weight" (spLWt K) := by
  refine cal_of F sc_law_weight (fun vs H Q E h => ?_) (fun _ _ _ _ _ _ us hl => match us, hl with | [_], _ => rfl) (fun f cdv A outer s H vs Q E hr h => ?_)
  · obtain ⟨v, d, rfl, _⟩ := h
    rfl
  · obtain ⟨v, d, rfl, hd, k⟩ := h
    refine ⟨_, (pss_one (ps_ret (pe_ifExp (pt_val (pe_callB (call_isinstanceA K) rfl B.isinstance (by decide +kernel) (pa_cons (pv 0) (pa_cons (pe_bltn (v := .ty "list") rfl B.list (by decide +kernel) rfl) pa_nil)))) (pe_op (op_addA K) pe_int (pe_callB (call_lenA K) rfl B.len (by decide +kernel) (pa_cons (pv 0) pa_nil))) (pe_callTy call_intA rfl B.int (by decide +kernel) (pa_cons (pe_cmpR op_isnotA (pv 0) pe_non (nomark _)) pa_nil))))), ?_⟩
    cases hd with
    | @lst a xs ds s r =>
      walk_at "rd"
      refine r_isi_lst_list s ?_
      walk_at "rd"
      refine r_lenL s ?_
      walk_at "rd"
      have e : (1 : Int) + (xs.length : Nat) = ((wtD (.list ds) : Nat) : Int) := by
        rw [DpAll.length r]
        show (1 : Int) + (ds.length : Nat) = ((1 + ds.length : Nat) : Int)
        omega
      rw [e]
      exact k _ (Evl.Ex.refl _)
    | tup s r => walk_at "rd"; refine r_isi_tup_list s ?_; walk_at "rx"; exact .inr ⟨_, rfl, k _ (Evl.Ex.refl _)⟩
    | non => walk_at "rx"; exact .inr ⟨_, rfl, k _ (Evl.Ex.refl _)⟩
    | bl b => walk_at "rx"; exact .inr ⟨_, rfl, k _ (Evl.Ex.refl _)⟩
    | int i => walk_at "rx"; exact .inr ⟨_, rfl, k _ (Evl.Ex.refl _)⟩
    | str z => walk_at "rx"; exact .inr ⟨_, rfl, k _ (Evl.Ex.refl _)⟩
end

abbrev N_law_answer_at : List Str := ["_law_pairs", "_law_path_here", "_law_found", "_law_known", "_law_answer"]
theorem sc_law_answer_at : FnScope N_law_answer_at ["_law_pairs", "_law_path_here"] (defScope s_law_answer_at) := ⟨rfl, rfl, rfl, by decide +kernel, rfl, by decide +kernel, by decide +kernel⟩
abbrev N_law_kept : List Str := ["_law_pairs", "_law_paths", "_law_path_here", "_law_answer"]
theorem sc_law_kept : FnScope N_law_kept ["_law_pairs"] (defScope s_law_kept) := ⟨rfl, rfl, rfl, by decide +kernel, rfl, by decide +kernel, by decide +kernel⟩
def spAnsAt (K : PySem.W.Frag) : Sp := fun vs H Q _ => ∃ (L p : Addr) (xs : List V) (ps : PTab) (ag ag' : Bool) (z : List Str) (G : Hp), vs = [.ref L, .ref p] ∧ Evl.Ex G H ∧ SqL K H L xs ∧ Rows K G ag xs ps ∧ H p = some (.tup (z.map V.str)) ∧ PathOk ag' z ∧
  ∀ (v : V) (H' : Hp), Evl.Ex H H' → AnsD K G v ((tabV ps z).getD .none) → Q v H'
def spKept (K : PySem.W.Frag) : Sp := fun vs H Q _ => ∃ (L : Addr) (xs : List V) (ps : PTab) (ag : Bool) (G : Hp), vs = [.ref L] ∧ Evl.Ex G H ∧ SqL K H L xs ∧ Rows K G ag xs ps ∧
  ∀ (R : Addr) (ys : List V) (tab : PTab) (H' : Hp), Evl.Ex H H' → H R = none → H' R = some (.lst ys) → TabOf ps tab → Paired (RowV K (ext G H H') ag) ys tab → Q (.ref R) H'
section
variable {P : Program} {w : World} {K : PySem.W.Frag} {mg : Str → Option Value} {base : Heap}
theorem found_of {G : Hp} {ag : Bool} {z : List Str} : ∀ {xs : List V} {ps : PTab}, Paired (RowV K G ag) xs ps → (xs.filter (rowIs K G ag z) = [] ∧ tabV ps z = none) ∨ ∃ (x : V) (r : List V) (d : PyData), xs.filter (rowIs K G ag z) = x :: r ∧ tabV ps z = some d ∧ AnsD K G (sndV G x) d
  | [], [], .nil => .inl ⟨rfl, rfl⟩
  | x :: xs, t :: ps, .cons h r => by
    by_cases e : t.1 = z
    · subst e
      obtain ⟨en, p, va, rfl, he, hp, ha, hok⟩ := id h
      refine .inr ⟨.ref en, xs.filter (rowIs K G ag t.1), t.2, List.filter_cons_of_pos (rowIs_t ⟨t.2, h⟩), tabV_pos rfl, ?_⟩
      rw [sndV_of he]
      exact ha
    · rw [List.filter_cons_of_neg (by rw [rowIs_f fun ⟨d, g⟩ => e (h.inj g)]; exact Bool.false_ne_true), tabV_neg e]
      exact found_of r
theorem c_answer_at (F : At K mg "_law_answer_at" s_law_answer_at) (B : Bl mg) : Cal P w K mg base 1 "_law_answer_at" (spAnsAt K) := by
  refine cal_of F sc_law_answer_at (fun vs H Q E h => ?_) (fun _ _ _ _ _ _ us hl => match us, hl with | [_, _], _ => rfl) (fun f cdv A outer s H vs Q E hr h => ?_)
  · obtain ⟨L, p, xs, ps, ag, ag', z, G, rfl, _⟩ := h
    rfl
  · obtain ⟨L, p, xs, ps, ag, ag', z, G, rfl, eG, hL, hR, hp, hok, k⟩ := h
    refine ⟨_, (pss_cons (ps_setLc (i := 2) (own := [("_law_known", 3), ("_law_answer", 4)]) rfl sc_law_answer_at.nd rfl rfl (sw_true rfl rfl rfl (by decide +kernel)) (pi_any K (pv 0)) (blkOk_by (N := N_law_answer_at) (sc := defScope s_law_answer_at) (by decide +kernel)) (fun _ _ _ _ _ => (pg_tupA K (n := 2) (pg_tup rfl (pgs_cons (pg_name (i := 3) sc_law_answer_at.nd rfl (Or.inl rfl)) (pgs_cons (pg_name (i := 4) sc_law_answer_at.nd rfl (Or.inl rfl)) pgs_nil))))) (fun _ _ _ _ _ => pts_one (pt_cmpR (op_eqA K hr.units) (pv 3) (pv 1) (nomark _))) (fun _ _ _ _ _ => (pv 4)))
  (pss_one (ps_ret (pe_ifExp (pt_cmpR (op_neA K hr.units) (pv 2) (pe_lst pa_nil) (nomark _)) (pe_ix (ix_A K) (pv 2) pe_int (fun _ _ => rfl)) pe_non)))), ?_⟩
    have few := hR.few
    walk_at "rd"
    refine .inl ⟨L, rfl, ⟨_, hL⟩, fun M hM => ?_⟩
    refine lc_fm hM hL (by omega) (rowIs K G ag z) (sndV G) ?_ ?_
    · intro j v hv H' e' hne Q' R q1 q2
      obtain ⟨t, ht, hrow⟩ := rowAt hR.at_ hv
      obtain ⟨e, p', va, rfl, he, hp', hva, hok'⟩ := id hrow
      refine r_gTup (SqT.of (e' _ _ (eG _ _ he))) rfl ?_
      walk_at "rd"
      refine ⟨rfl, ?_⟩
      walk_at "rd"
      refine r_eqD (d := .tuple (t.1.map PyData.str)) (e := .tuple (z.map PyData.str)) (.tup (SqT.of (e' _ _ (eG _ _ hp'))) (path_dp t.1)) (.tup (SqT.of (e' _ _ hp)) (path_dp z)) (path_shaped hok') (path_shaped hok) ?_
      rw [PyData.eqv, eqv_paths]
      walk_at "rd"
      by_cases h : t.1 = z
      · rw [decide_eq_true h]
        walk_at "rd"
        have := q1 (rowIs_t ⟨t.2, h ▸ hrow⟩) _ (Evl.Ex.refl _)
        rw [sndV_of he] at this
        exact this
      · rw [decide_eq_false h]
        walk_at "rd"
        exact q2 (rowIs_f fun ⟨_, g⟩ => h (hrow.inj g)) _ (Evl.Ex.refl _)
    · intro H1 e1 hM1
      walk_at "rd"
      refine ⟨by show 0 ≤ sizeLine; decide, fun N hN => ?_⟩
      have e2 : Evl.Ex H1 (upd H1 N (.lst [])) := Evl.Ex.new hN
      have hN2 : upd H1 N (.lst []) N = some (.lst []) := upd_same
      have hM2 := e2 _ _ hM1
      generalize upd H1 N (HO.lst []) = H2 at e2 hN2 hM2 ⊢
      have e02 := e1.trans e2
      have fl := List.length_filter_le (rowIs K G ag z) xs
      obtain ⟨ds, d1, d2, d3⟩ := dvAll (K := K) (H := H2) (m := 2) (xs := (xs.filter (rowIs K G ag z)).map (sndV G)) fun v hv => by
        obtain ⟨x, hx, rfl⟩ := List.mem_map.mp hv
        obtain ⟨j, hj⟩ := List.mem_iff_getElem?.mp (List.mem_filter.mp hx).1
        obtain ⟨t, ht, e, p', va, rfl, he, hp', hva, hok'⟩ := rowAt hR.at_ hj
        rw [sndV_of he]
        exact ⟨t.2, Dp.mono (eG.trans e02) hva.1, hva.2.1, ans_depth hva.2.2.1⟩
      have hdl := DpAll.length d1
      rw [List.length_map] at hdl
      have hsh : SeqAt.shaped (.list ds) = true := by
        unfold SeqAt.shaped
        rw [fit_lay (by rw [fit, d2, Bool.and_true]; exact decide_eq_true (by omega)), Bool.true_and, PyData.depth]
        exact decide_eq_true (by omega)
      refine r_neD (d := .list ds) (e := .list []) (.lst (SqL.of hM2) d1) (.lst (SqL.of hN2) .nil) hsh (by decide) ?_
      rcases found_of (z := z) hR.at_ with ⟨h1, h2⟩ | ⟨x, r, d, h1, h2, h3⟩
      · rw [h1] at hdl
        cases ds with
        | cons d ds => cases hdl
        | nil =>
          rw [PyData.eqv, PyData.eqvAll]
          walk_at "rd"
          rw [h2] at k
          exact k _ _ e02 ⟨.non, by show fit .none = true; rw [fit], rfl, rfl⟩
      · rw [h1] at hdl hM2
        cases ds with
        | nil => cases hdl
        | cons d0 ds =>
          rw [PyData.eqv, PyData.eqvAll]
          walk_at "rd"
          refine iteTc rfl ?_
          walk_at "rd"
          refine r_ixL (SqL.of hM2) (atI_nat (j := 0) rfl) ?_
          rw [h2] at k
          exact k _ _ e02 h3
theorem refs_of {G : Hp} {ag : Bool} : ∀ {xs : List V} {ps : PTab}, Paired (RowV K G ag) xs ps → ∃ bs : List Addr, (xs.filter fun v => !decide (sndV G v = .non)).map (fstV G) = bs.map V.ref ∧ Paired (fun b z => G b = some (.tup (z.map V.str))) bs ((ps.filter fun t => !isNonD t.2).map (·.1))
  | [], [], .nil => ⟨[], rfl, .nil⟩
  | x :: xs, t :: ps, .cons h r => by
    obtain ⟨en, p, va, rfl, he, hp, ha, hok⟩ := id h
    obtain ⟨bs, e1, e2⟩ := refs_of r
    by_cases hn : va = .non
    · have hd : isNonD t.2 = true := (dp_non ha.1).mp hn
      rw [List.filter_cons_of_neg (by rw [sndV_of he, hn]; simp), List.filter_cons_of_neg (by rw [hd]; simp)]
      exact ⟨bs, e1, e2⟩
    · have hd : isNonD t.2 = false := by
        cases q : isNonD t.2 with
        | false => rfl
        | true => exact absurd ((dp_non ha.1).mpr q) hn
      rw [List.filter_cons_of_pos (by rw [sndV_of he]; simp [hn]), List.filter_cons_of_pos (by rw [hd]; simp)]
      refine ⟨p :: bs, ?_, .cons hp e2⟩
      rw [List.map_cons, fstV_of he, e1]
      rfl
theorem Rows.ok {G : Hp} {ag : Bool} {xs : List V} {ps : PTab} (h : Rows K G ag xs ps) : ∀ t ∈ ps, PathOk ag t.1 := fun t ht => by
  obtain ⟨v, _, _, _, _, _, _, _, _, q⟩ := rowOf h.at_ ht
  exact q
theorem c_kept (F : At K mg "_law_kept" s_law_kept) (B : Bl mg) (c_law_answer_at : Cal P w K mg base 1 "_law_answer_at" (spAnsAt K)) : Cal P w K mg base 2 "_law_kept" (spKept K) := by
  refine cal_of F sc_law_kept (fun vs H Q E h => ?_) (fun _ _ _ _ _ _ us hl => match us, hl with | [_], _ => rfl) (fun f cdv A outer s H vs Q E hr h => ?_)
  · obtain ⟨L, xs, ps, ag, G, rfl, _⟩ := h
    rfl
  · obtain ⟨L, xs, ps, ag, G, rfl, eG, hL, hR, k⟩ := h
    refine ⟨_, (pss_cons (ps_set (i := 1) sc_law_kept.nd rfl (Or.inl rfl) (pe_callB (cr_sortedTL K) rfl B.sorted (by decide +kernel) (pa_cons (pe_lc (own := [("_law_path_here", 2), ("_law_answer", 3)]) rfl sc_law_kept.nd (pi_any K (pv 0)) (blkOk_by (N := N_law_kept) (sc := defScope s_law_kept) (by decide +kernel)) (fun _ _ _ _ _ => (pg_tupA K (n := 2) (pg_tup rfl (pgs_cons (pg_name (i := 2) sc_law_kept.nd rfl (Or.inl rfl)) (pgs_cons (pg_name (i := 3) sc_law_kept.nd rfl (Or.inl rfl)) pgs_nil))))) (fun _ _ _ _ _ => pts_one (pt_cmpR op_isnotA (pv 3) pe_non (nomark _))) (fun _ _ _ _ _ => (pv 2))) pa_nil)))
  (pss_one (ps_ret (pe_lc (own := [("_law_path_here", 2)]) rfl sc_law_kept.nd (pi_any K (pv 1)) (blkOk_by (N := N_law_kept) (sc := defScope s_law_kept) (by decide +kernel)) (fun _ _ _ _ _ => (pg_name (i := 2) sc_law_kept.nd rfl (Or.inl rfl))) (fun _ _ _ _ _ => pts_nil) (fun _ _ _ _ _ => (pe_tup (pa_cons (pv 2) (pa_cons (pe_cA c_law_answer_at hr (by omega) rfl (pa_cons (pv 0) (pa_cons (pv 2) pa_nil))) pa_nil)))))))), ?_⟩
    have few := hR.few
    have hlen := Paired.len hR.at_
    walk_at "rd"
    refine .inl ⟨L, rfl, ⟨_, hL⟩, fun M hM => ?_⟩
    refine lc_fm hM hL (by omega) (fun v => !decide (sndV G v = .non)) (fstV G) ?_ ?_
    · intro j v hv H' e' hne Q' R q1 q2
      obtain ⟨t, ht, e, p', va, rfl, he, hp', hva, hok'⟩ := rowAt hR.at_ hv
      rw [sndV_of he, fstV_of he] at q1
      rw [sndV_of he] at q2
      refine r_gTup (SqT.of (e' _ _ (eG _ _ he))) rfl ?_
      walk_at "rd"
      refine ⟨rfl, ?_⟩
      walk_at "rd"
      by_cases h : va = .non
      · subst h
        walk_at "rd"
        exact q2 (by simp) _ (Evl.Ex.refl _)
      · rw [decide_eq_false h]
        walk_at "rd"
        refine iteTc rfl ?_
        walk_at "rd"
        exact q1 (by simp [h]) _ (Evl.Ex.refl _)
    · intro H1 e1 hM1
      obtain ⟨bs, eb, hbs⟩ := refs_of hR.at_
      rw [eb] at hM1
      walk_at "rd"
      refine ⟨M, bs, _, rfl, SqL.of hM1, Paired.monoP (fun _ _ q => (eG.trans e1) _ _ q) hbs, fun z hz => ?_, fun S cs ts hS pcs hcs perm srt => ?_⟩
      · obtain ⟨t, ht, rfl⟩ := List.mem_map.mp hz
        exact (hR.ok t (List.mem_filter.mp ht).1).1
      · have e2 : Evl.Ex H1 (upd H1 S (.lst (cs.map V.ref))) := Evl.Ex.new hS
        have hS2 : upd H1 S (.lst (cs.map V.ref)) S = some (.lst (cs.map V.ref)) := upd_same
        generalize upd H1 S (HO.lst (cs.map V.ref)) = H2 at e2 hS2 ⊢
        have e02 := e1.trans e2
        -- the table
        have hfl := List.length_filter_le (fun t : List Str × PyData => !isNonD t.2) ps
        have hcl : cs.length = ts.length := Paired.length hcs
        have htl : ts.length = (ps.filter fun t => !isNonD t.2).length := by rw [perm.length_eq, List.length_map]
        have ndf : ((ps.filter fun t => !isNonD t.2).map (·.1)).Nodup := (List.Sublist.map (fun t : List Str × PyData => t.1) List.filter_sublist).nodup hR.nd
        have ndt : ts.Nodup := perm.nodup_iff.mpr ndf
        have mt : ∀ z ∈ ts, ∃ d, (z, d) ∈ ps ∧ isNonD d = false ∧ tabV ps z = some d := fun z hz => by
          obtain ⟨t, ht, rfl⟩ := List.mem_map.mp (perm.mem_iff.mp hz)
          obtain ⟨h1, h2⟩ := List.mem_filter.mp ht
          exact ⟨t.2, h1, by simpa using h2, tabV_of hR.nd h1⟩
        have tabof : TabOf ps (ts.map fun z => (z, (tabV ps z).getD .none)) := by
          refine ⟨?_, ?_⟩
          · show List.Pairwise _ _
            rw [List.pairwise_map]
            refine List.Pairwise.imp₂ (R := fun x y => lexS y x = false) (S := fun x y => x ≠ y) (fun {a b} h1 h2 => ?_) srt (List.nodup_iff_pairwise_ne.mp ndt)
            cases e : lexS a b with
            | true => rfl
            | false => exact absurd (lexS_tri e h1) h2
          · refine (perm.map _).trans (List.Perm.of_eq ?_)
            rw [List.map_map]
            refine (List.map_congr_left fun t ht => ?_).trans (List.map_id _)
            show (t.1, (tabV ps t.1).getD .none) = t
            rw [tabV_of hR.nd (show (t.1, t.2) ∈ ps from (List.mem_filter.mp ht).1)]
            rfl
        walk_at "rd"
        refine .inl ⟨S, rfl, ⟨_, SqL.of hS2⟩, fun R hR' => ?_⟩
        refine lc_GL hR' (SqL.of hS2) (by rw [List.length_map]; omega) (fun i G' v => ∃ z, ts[i]? = some z ∧ RowV K (ext G H G') ag v (z, (tabV ps z).getD .none)) (fun _ _ _ _ x ⟨z, h1, h2⟩ => ⟨z, h1, h2.mono (ext_mono x)⟩) ?_ ?_
        · intro i v hv H3 e3 hne Q' R' q'
          rw [List.getElem?_map] at hv
          obtain ⟨c, hc, rfl⟩ := Option.map_eq_some_iff.mp hv
          obtain ⟨z, hz, hcz⟩ := pairedAt hcs hc
          have e13 := e2.trans e3
          obtain ⟨d, hm, hn, hval⟩ := mt z (List.mem_of_getElem? hz)
          have okz := hR.ok _ hm
          refine ⟨rfl, ?_⟩
          walk_at "rd"
          refine ⟨L, c, xs, ps, ag, ag, z, G, rfl, (eG.trans e02).trans e3, Evl.ex_l (e02.trans e3) hL, hR, e13 _ _ hcz, okz, fun u H4 e4 hu => ?_⟩
          walk_at "rd"
          refine ⟨by show 2 ≤ sizeLine; decide, fun q hq => ?_⟩
          have e5 : Evl.Ex H4 (upd H4 q (.tup [.ref c, u])) := Evl.Ex.new hq
          have nqR : q ≠ R := fun e => ex_some e4 hne (e ▸ hq)
          refine q' _ _ (e4.trans e5) ⟨z, hz, q, c, u, rfl, ext_new (ex_dom (e02.trans (e3.trans e4)) hq) (hid_of upd_same nqR), ?_, hu.mono (ext_old eG), okz⟩
          obtain ⟨z', hz'⟩ : ∃ z' : List Str, G c = some (.tup (z'.map V.str)) := by
            have m := pcs.mem_iff.mp (List.mem_of_getElem? hc)
            obtain ⟨i', hi'⟩ := List.mem_iff_getElem?.mp m
            obtain ⟨t', _, q'⟩ := pairedAt hbs hi'
            exact ⟨t', q'⟩
          have same := (eG.trans e1) _ _ hz'
          rw [hcz] at same
          injection same with same
          injection same with same
          rw [same]
          exact ext_old eG _ _ hz'
        · intro H3 ys e3 hR3 hl hys
          refine k R ys _ _ (e02.trans e3) (ex_dom e02 hR') hR3 tabof (paired_of_get (by rw [hl, List.length_map, List.length_map, hcl]) fun i v hv => ?_)
          obtain ⟨z, hz, hrow⟩ := hys i v hv
          exact ⟨_, by rw [List.getElem?_map, hz]; rfl, hrow.mono (ext_mono hid_ex)⟩
end

end WP

set_option Elab.async false
set_option linter.all false
set_option maxRecDepth 100000
set_option maxHeartbeats 4000000
namespace WP
open PySem PySem.Spec PyProof.Rows L2
local macro_rules | `(tactic| walk_at "rd") => `(tactic| repeat (first
  | with_reducible refine r_seq ?_ | with_reducible refine r_fld ?_ | with_reducible refine r_prop ?_ | with_reducible refine r_revT ?_ | with_reducible refine r_fldS ?_ | with_reducible refine r_meth ?_ | with_reducible refine r_methX ?_ | with_reducible refine r_make ?_ | with_reducible refine r_makeS ?_ | with_reducible refine r_makeKS ?_ | with_reducible refine r_dcA ?_ | with_reducible refine r_addOS ?_ | with_reducible refine r_dgetT ?_ | with_reducible refine r_dputT ?_ | with_reducible refine r_dget2T ?_ | with_reducible refine r_starT ?_ | with_reducible refine r_statT ?_ | with_reducible refine r_par3 ?_ | with_reducible refine r_callR ?_ | with_reducible refine r_callS ?_ | with_reducible refine r_mkO ?_ | with_reducible refine r_raise ?_ | with_reducible refine r_callW ?_ | with_reducible refine r_tru ?_ | with_reducible refine r_var rfl ?_ | with_reducible refine r_c ?_ | with_reducible refine r_op ?_ | with_reducible refine r_cons ?_ | with_reducible refine r_nil ?_
  | with_reducible refine r_cb ?_ | with_reducible refine r_call ?_ | with_reducible refine r_test ?_ | with_reducible refine r_B ?_ | with_reducible refine r_bl ?_ | with_reducible refine r_asg ?_ | with_reducible refine r_asgS ?_
  | with_reducible refine r_ret ?_ | with_reducible refine r_drop ?_ | with_reducible refine r_ifS ?_ | with_reducible refine r_if ?_ | with_reducible refine r_and ?_ | with_reducible refine r_or ?_ | with_reducible refine r_not ?_
  | with_reducible refine r_andV ?_ | with_reducible refine r_orV ?_ | with_reducible refine r_notV ?_ | with_reducible refine r_chain ?_ | with_reducible refine r_sl ?_ | with_reducible refine r_nopart ?_ | with_reducible refine r_part ?_ | with_reducible refine r_partN ?_ | with_reducible refine r_xv ?_ | with_reducible refine r_xo ?_ | with_reducible refine r_mkV ?_ | with_reducible refine r_forG ?_ | with_reducible refine r_listG ?_ | with_reducible refine r_methG ?_
  | with_reducible refine r_intO ?_ | with_reducible refine r_two ?_ | with_reducible refine r_m1 ?_ | with_reducible refine r_bm ?_ | with_reducible refine r_next ?_ | with_reducible refine r_gCons ?_ | with_reducible refine r_gNil ?_ | with_reducible refine r_asgT ?_ | with_reducible refine r_for ?_ | with_reducible refine r_rng1 ?_ | with_reducible refine r_iList ?_ | with_reducible refine r_iAny ?_ | with_reducible refine r_lc ?_ | with_reducible refine r_yes ?_ | with_reducible refine r_gN ?_ | with_reducible refine r_par ?_ | with_reducible refine r_un ?_ | with_reducible refine r_brk ?_ | with_reducible refine r_cont ?_
  | with_reducible refine r_I0 ?_ | with_reducible refine r_U ?_ | with_reducible refine r_addI ?_ | with_reducible refine r_abs ?_ | with_reducible refine r_intI ?_ | with_reducible refine r_max2 ?_ | with_reducible refine r_min2 ?_
  | with_reducible refine r_ltI ?_ | with_reducible refine r_leI ?_ | with_reducible refine r_gtI ?_ | with_reducible refine r_geI ?_ | with_reducible refine r_isN_non ?_ | with_reducible refine r_isN_int ?_ | with_reducible refine r_isN_str ?_ | with_reducible refine r_isN_bl ?_ | with_reducible refine r_isN_ref ?_ | with_reducible refine r_isN ?_ | with_reducible refine r_isB ?_ | with_reducible refine r_isnotN_non ?_ | with_reducible refine r_isnotN_int ?_ | with_reducible refine r_isnotN_str ?_ | with_reducible refine r_isnotN_bl ?_ | with_reducible refine r_isnotN_ref ?_ | with_reducible refine r_isnotN ?_ | with_reducible refine r_isnotB ?_
  | with_reducible refine r_inS ?_ | with_reducible refine r_eqS rfl ?_ | with_reducible refine r_neS rfl ?_ | with_reducible refine r_lst ?_ | with_reducible refine r_tup ?_ | with_reducible refine iteT ?_ | with_reducible refine iteF ?_))
local macro_rules | `(tactic| walk_at "isi") => `(tactic| (first
  | with_reducible refine r_isi_non_int ?_
  | with_reducible refine r_isi_non_str ?_
  | with_reducible refine r_isi_non_list ?_
  | with_reducible refine r_isi_non_tuple ?_
  | with_reducible refine r_isi_non_bool ?_
  | with_reducible refine r_isi_bl_int ?_
  | with_reducible refine r_isi_bl_str ?_
  | with_reducible refine r_isi_bl_list ?_
  | with_reducible refine r_isi_bl_tuple ?_
  | with_reducible refine r_isi_bl_bool ?_
  | with_reducible refine r_isi_int_int ?_
  | with_reducible refine r_isi_int_str ?_
  | with_reducible refine r_isi_int_list ?_
  | with_reducible refine r_isi_int_tuple ?_
  | with_reducible refine r_isi_int_bool ?_
  | with_reducible refine r_isi_str_int ?_
  | with_reducible refine r_isi_str_str ?_
  | with_reducible refine r_isi_str_list ?_
  | with_reducible refine r_isi_str_tuple ?_
  | with_reducible refine r_isi_str_bool ?_
  | with_reducible refine r_isi_lst_int (SqL.of (by assumption)) ?_
  | with_reducible refine r_isi_lst_str (SqL.of (by assumption)) ?_
  | with_reducible refine r_isi_lst_list (SqL.of (by assumption)) ?_
  | with_reducible refine r_isi_lst_tuple (SqL.of (by assumption)) ?_
  | with_reducible refine r_isi_lst_bool (SqL.of (by assumption)) ?_
  | with_reducible refine r_isi_tup_int (SqT.of (by assumption)) ?_
  | with_reducible refine r_isi_tup_str (SqT.of (by assumption)) ?_
  | with_reducible refine r_isi_tup_list (SqT.of (by assumption)) ?_
  | with_reducible refine r_isi_tup_tuple (SqT.of (by assumption)) ?_
  | with_reducible refine r_isi_tup_bool (SqT.of (by assumption)) ?_))
local macro_rules | `(tactic| walk_at "rs") => `(tactic| (first
  | ((with_reducible refine iteTc ?hc ?_); (case hc => rfl)) | ((with_reducible refine iteFc ?hc ?_); (case hc => rfl))
  | walk_at "isi"
  | refine r_ixL (SqL.of (by assumption)) rfl ?_ | refine r_ixL (SqL.of upd_same) rfl ?_
  | refine r_I (C := fun _ j => 0 < j) (by first | decide | assumption | omega) ?_
  | refine r_mulI (.inl ⟨by decide, by decide⟩) ?_ | refine r_mulI (.inr ⟨by decide, by decide⟩) ?_ | refine r_mulI (.inr ⟨by omega, by omega⟩) ?_ | refine r_mulI (.inl ⟨by omega, by omega⟩) ?_
  | refine r_I (wide_div (b := 64) (by decide) (by decide) (by decide) (by decide)) ?_
  | refine r_I (C := CPow) ⟨by decide, by decide, by decide⟩ ?_
  | refine r_setL (by assumption) rfl ?_ | refine r_setL upd_same rfl ?_))
local macro_rules | `(tactic| walk_at "rx") => `(tactic| (walk_at "rd"; (repeat (walk_at "rs"; walk_at "rd"))))
local macro_rules | `(tactic| walk_at "rl") => `(tactic| repeat (first
  | with_reducible refine r_seq ?_ | with_reducible refine r_fld ?_ | with_reducible refine r_prop ?_ | with_reducible refine r_revT ?_ | with_reducible refine r_fldS ?_ | with_reducible refine r_meth ?_ | with_reducible refine r_methX ?_ | with_reducible refine r_make ?_ | with_reducible refine r_makeS ?_ | with_reducible refine r_makeKS ?_ | with_reducible refine r_dcA ?_ | with_reducible refine r_addOS ?_ | with_reducible refine r_dgetT ?_ | with_reducible refine r_dputT ?_ | with_reducible refine r_dget2T ?_ | with_reducible refine r_starT ?_ | with_reducible refine r_statT ?_ | with_reducible refine r_par3 ?_ | with_reducible refine r_callR ?_ | with_reducible refine r_callS ?_ | with_reducible refine r_mkO ?_ | with_reducible refine r_raise ?_ | with_reducible refine r_callW ?_ | with_reducible refine r_tru ?_ | with_reducible refine r_var rfl ?_ | with_reducible refine r_c ?_ | with_reducible refine r_op ?_ | with_reducible refine r_cons ?_ | with_reducible refine r_nil ?_
  | with_reducible refine r_cb ?_ | with_reducible refine r_call ?_ | with_reducible refine r_test ?_ | with_reducible refine r_B ?_ | with_reducible refine r_bl ?_ | with_reducible refine r_asg ?_ | with_reducible refine r_asgS ?_
  | with_reducible refine r_ret ?_ | with_reducible refine r_drop ?_ | with_reducible refine r_ifS ?_ | with_reducible refine r_if ?_ | with_reducible refine r_and ?_ | with_reducible refine r_or ?_ | with_reducible refine r_not ?_
  | with_reducible refine r_andV ?_ | with_reducible refine r_orV ?_ | with_reducible refine r_notV ?_ | with_reducible refine r_chain ?_ | with_reducible refine r_sl ?_ | with_reducible refine r_nopart ?_ | with_reducible refine r_part ?_ | with_reducible refine r_partN ?_ | with_reducible refine r_xv ?_ | with_reducible refine r_xo ?_ | with_reducible refine r_mkV ?_ | with_reducible refine r_forG ?_ | with_reducible refine r_listG ?_ | with_reducible refine r_methG ?_
  | with_reducible refine r_intO ?_ | with_reducible refine r_two ?_ | with_reducible refine r_m1 ?_ | with_reducible refine r_bm ?_ | with_reducible refine r_next ?_ | with_reducible refine r_gCons ?_ | with_reducible refine r_gNil ?_ | with_reducible refine r_asgT ?_ | with_reducible refine r_for ?_ | with_reducible refine r_rng1 ?_ | with_reducible refine r_iList ?_ | with_reducible refine r_iAny ?_ | with_reducible refine r_lc ?_ | with_reducible refine r_yes ?_ | with_reducible refine r_gN ?_ | with_reducible refine r_par ?_ | with_reducible refine r_un ?_ | with_reducible refine r_brk ?_ | with_reducible refine r_cont ?_
  | with_reducible refine r_I0 ?_ | with_reducible refine r_U ?_ | with_reducible refine r_addI ?_ | with_reducible refine r_abs ?_ | with_reducible refine r_intI ?_ | with_reducible refine r_max2 ?_ | with_reducible refine r_min2 ?_
  | with_reducible refine r_ltI ?_ | with_reducible refine r_leI ?_ | with_reducible refine r_gtI ?_ | with_reducible refine r_geI ?_ | with_reducible refine r_isN_non ?_ | with_reducible refine r_isN_int ?_ | with_reducible refine r_isN_str ?_ | with_reducible refine r_isN_bl ?_ | with_reducible refine r_isN_ref ?_ | with_reducible refine r_isN ?_ | with_reducible refine r_isB ?_ | with_reducible refine r_isnotN_non ?_ | with_reducible refine r_isnotN_int ?_ | with_reducible refine r_isnotN_str ?_ | with_reducible refine r_isnotN_bl ?_ | with_reducible refine r_isnotN_ref ?_ | with_reducible refine r_isnotN ?_ | with_reducible refine r_isnotB ?_
  | with_reducible refine r_inS ?_ | with_reducible refine r_eqS rfl ?_ | with_reducible refine r_neS rfl ?_ | with_reducible refine iteT ?_ | with_reducible refine iteF ?_))
local macro_rules | `(tactic| walk_at "bld") => `(tactic| repeat' (first
  | exact bldA_nil | refine bldA_cons ?_ ?_ | refine bld_tup ?_ | refine bld_lst ?_ | exact bld_str | exact bld_int | exact bld_non | exact bld_bl | refine bld_mul ?_ (mulOk_w (by decide) (by decide) (by decide +kernel)) | refine bld_add ?_ ?_ ?_))

abbrev N_law_is_integer : List Str := ["_law_thing"]
theorem sc_law_is_integer : FnScope N_law_is_integer ["_law_thing"] (defScope s_law_is_integer) := ⟨rfl, rfl, rfl, by decide +kernel, rfl, by decide +kernel, by decide +kernel⟩
section
variable {P : Program} {w : World} {K : PySem.W.Frag} {mg : Str → Option Value} {base : Heap}
theorem c_law_is_integer_ (F : At K mg "_law_is_integer" s_law_is_integer) (B : Bl mg) : Cal P w K mg base 1 "_law_is_integer" (spB1 K isIntD) := by
  refine cal_of F sc_law_is_integer (fun vs H Q E h => ?_) (fun _ _ _ _ _ _ us hl => match us, hl with | [_], _ => rfl) (fun f cdv A outer s H vs Q E hr h => ?_)
  · obtain ⟨v, d, rfl, _⟩ := h
    rfl
  · obtain ⟨v, d, rfl, hd, hf, k⟩ := h
    refine ⟨_, (pss_one (ps_ret (pe_and (pe_callB (call_isinstanceA K) rfl B.isinstance (by decide +kernel) (pa_cons (pv 0) (pa_cons (pe_bltn (v := .ty "int") rfl B.int (by decide +kernel) rfl) pa_nil))) (pe_one (pe_not (pe_callB (call_isinstanceA K) rfl B.isinstance (by decide +kernel) (pa_cons (pv 0) (pa_cons (pe_bltn (v := .ty "bool") rfl B.bool (by decide +kernel) rfl) pa_nil)))))))), ?_⟩
    cases hd with
    | lst s r => walk_at "rd"; refine r_isi_lst_int s ?_; walk_at "rx"; exact k _ (Evl.Ex.refl _)
    | tup s r => walk_at "rd"; refine r_isi_tup_int s ?_; walk_at "rx"; exact k _ (Evl.Ex.refl _)
    | _ => walk_at "rx"; exact k _ (Evl.Ex.refl _)
end

abbrev N_law_equal : List Str := ["_law_one", "_law_other", "_law_k"]
theorem sc_law_equal : FnScope N_law_equal ["_law_one", "_law_other"] (defScope s_law_equal) := ⟨rfl, rfl, rfl, by decide +kernel, rfl, by decide +kernel, by decide +kernel⟩
abbrev N_law_are_entries : List Str := ["_law_told", "_law_pairs", "_law_due", "_law_k"]
theorem sc_law_are_entries : FnScope N_law_are_entries ["_law_told", "_law_pairs"] (defScope s_law_are_entries) := ⟨rfl, rfl, rfl, by decide +kernel, rfl, by decide +kernel, by decide +kernel⟩
def spEqual (K : PySem.W.Frag) : Sp := fun vs H Q _ => ∃ (v1 v2 : V) (d1 d2 : PyData), vs = [v1, v2] ∧ AnsD K H v1 d1 ∧ AnsD K H v2 d2 ∧ ∀ (r : Bool) (H' : Hp), Evl.Ex H H' → (r = true ↔ d1 = d2) → Q (.bl r) H'
def spAre (K : PySem.W.Frag) : Sp := fun vs H Q _ => ∃ (v : V) (L : Addr) (xs : List V) (ps tab : PTab) (ag : Bool) (G : Hp), vs = [v, .ref L] ∧ Evl.Ex G H ∧ SqL K H L xs ∧ Rows K G ag xs ps ∧ TabOf ps tab ∧ Dp K H v (tabP tab) ∧ ∀ H', Evl.Ex H H' → Q (.bl true) H'
section
variable {P : Program} {w : World} {K : PySem.W.Frag} {mg : Str → Option Value} {base : Heap}
theorem dp_get {H : Hp} {vs : List V} {ds : List PyData} {i : Nat} {v : V} (h : DpAll K H vs ds) (e : vs[i]? = some v) : ∃ d, ds[i]? = some d ∧ Dp K H v d := DpAll.get h e
theorem items_ans {ds : List PyData} (h : isAnswerD (.list ds) = true) (f : fit (.list ds) = true) (t : tinyD (.list ds) = true) {i : Nat} {d : PyData} (e : ds[i]? = some d) : isItemD d = true ∧ ShowD d := by
  have m := List.mem_of_getElem? e
  have h1 := List.all_eq_true.mp (show ds.all isItemD = true from h) d m
  have h2 := List.all_eq_true.mp (Bool.and_eq_true_iff.mp (show (decide (ds.length ≤ 100) && ds.all tinyI) = true from t)).2 d m
  obtain ⟨a1, a2, a3, a4⟩ := tinyI_show (fitAll_mem (fit_list f).2 m) h2
  exact ⟨h1, a1, a2, by omega, by rw [sizeLine_eq]; omega⟩
theorem lists_eq {as bs : List PyData} (ha : as.all isItemD = true) (hb : bs.all isItemD = true) (hl : as.length = bs.length) (p : Nat → Bool) (hp : ∀ i a b, as[i]? = some a → bs[i]? = some b → (p i = true ↔ a.shown ≠ b.shown)) : ((List.range as.length).filter p = [] ↔ as = bs) := by
  rw [List.filter_eq_nil_iff]
  constructor
  · intro h
    refine List.ext_getElem hl fun i h1 h2 => ?_
    have h3 := h i (List.mem_range.mpr h1)
    have e1 := List.getElem?_eq_getElem h1
    have e2 := List.getElem?_eq_getElem h2
    have : as[i].shown = bs[i].shown := by
      cases q : p i with
      | true => rw [q] at h3; exact absurd rfl h3
      | false =>
        by_cases c : as[i].shown = bs[i].shown
        · exact c
        · rw [(hp i _ _ e1 e2).mpr c] at q; cases q
    exact item_shown_inj (List.all_eq_true.mp ha _ (List.getElem_mem h1)) (List.all_eq_true.mp hb _ (List.getElem_mem h2)) this
  · rintro rfl i hi hq
    have e1 := List.getElem?_eq_getElem (List.mem_range.mp hi)
    exact (hp i _ _ e1 e1).mp hq rfl
theorem c_equal (F : At K mg "_law_equal" s_law_equal) (B : Bl mg) (f_repr : mg "repr" = none) : CalT P w K mg base 1 "_law_equal" (spEqual K) := by
  refine calT_of F sc_law_equal (fun vs H Q E h => ?_) (fun _ _ _ _ _ _ us hl => match us, hl with | [_, _], _ => rfl) (fun f cdv A outer s H vs Q E hgd hr h => ?_)
  · obtain ⟨v1, v2, d1, d2, rfl, _⟩ := h
    rfl
  · obtain ⟨v1, v2, d1, d2, rfl, ⟨h1, f1, a1, t1⟩, ⟨h2, f2, a2, t2⟩, k⟩ := h
    refine ⟨_, (pss_cons (ps_if (PW.pt (pw_and (pt_val (pe_callB (call_isinstanceA K) rfl B.isinstance (by decide +kernel) (pa_cons (pv 0) (pa_cons (pe_bltn (v := .ty "list") rfl B.list (by decide +kernel) rfl) pa_nil)))) (pw_and1 (pt_val (pe_callB (call_isinstanceA K) rfl B.isinstance (by decide +kernel) (pa_cons (pv 1) (pa_cons (pe_bltn (v := .ty "list") rfl B.list (by decide +kernel) rfl) pa_nil)))))))
   (pss_cons (ps_if (pt_cmpR (op_neA K hr.units) (pe_callB (call_lenA K) rfl B.len (by decide +kernel) (pa_cons (pv 0) pa_nil)) (pe_callB (call_lenA K) rfl B.len (by decide +kernel) (pa_cons (pv 1) pa_nil)) (nomark _))
   (pss_one (ps_ret pe_bl))
   pss_nil)
  (pss_one (ps_ret (pe_cmpR (op_eqA K hr.units) (pe_lc (own := [("_law_k", 2)]) rfl sc_law_equal.nd (pi_range1 rfl B.range (pa_cons (pe_callB (call_lenA K) rfl B.len (by decide +kernel) (pa_cons (pv 0) pa_nil)) pa_nil)) (blkOk_by (N := N_law_equal) (sc := defScope s_law_equal) (by decide +kernel)) (fun _ _ _ _ _ => (pg_name (i := 2) sc_law_equal.nd rfl (Or.inl rfl))) (fun _ _ _ _ _ => pts_one (pt_cmpR (op_neA K hr.units) (pe_callB (call_repr K hgd hr) rfl f_repr (by decide +kernel) (pa_cons (pe_ix (ix_A K) (pv 0) (pv 2) (fun _ _ => rfl)) pa_nil)) (pe_callB (call_repr K hgd hr) rfl f_repr (by decide +kernel) (pa_cons (pe_ix (ix_A K) (pv 1) (pv 2) (fun _ _ => rfl)) pa_nil)) (nomark _))) (fun _ _ _ _ _ => (pv 2))) (pe_lst pa_nil) (nomark _)))))
   pss_nil)
  (pss_one (ps_ret (pe_and (pe_not (pe_callB (call_isinstanceA K) rfl B.isinstance (by decide +kernel) (pa_cons (pv 0) (pa_cons (pe_bltn (v := .ty "list") rfl B.list (by decide +kernel) rfl) pa_nil)))) (pe_one (pe_cmpR (op_eqA K hr.units) (pe_callB (call_repr K hgd hr) rfl f_repr (by decide +kernel) (pa_cons (pv 0) pa_nil)) (pe_callB (call_repr K hgd hr) rfl f_repr (by decide +kernel) (pa_cons (pv 1) pa_nil)) (nomark _))))))), ?_⟩
    walk_at "rd"
    refine r_isiD_list h1 ?_
    walk_at "rd"
    have two : ∀ b1, isListD d1 = b1 → (b1 = true → isListD d2 = false) → (rIsi K [v1, V.ty "list"] H fun x H1 => ∃ c, x = V.bl c ∧ ∃ c_1, (V.bl !c) = V.bl c_1 ∧ if c_1 = true then tOp (rEqA K) (tCB (rRepr K) (tCons (tVar 0) tNil)) (tCB (rRepr K) (tCons (tVar 1) tNil)) (L2.start N_law_equal [v1, v2]) H1 Q else Q (V.bl false) H1) := by
      intro b1 e1 e2
      refine r_isiD_list h1 ?_
      refine ⟨_, rfl, _, rfl, ?_⟩
      rw [e1]
      cases b1 with
      | true =>
        refine iteFc rfl ?_
        walk_at "rd"
        refine k false _ (Evl.Ex.refl _) ⟨fun h => (by cases h), fun h => ?_⟩
        rw [h, e2 rfl] at e1
        cases e1
      | false =>
        refine iteTc rfl ?_
        walk_at "rd"
        refine r_reprT h1 (tiny_show f1 t1) ?_
        walk_at "rd"
        refine r_reprT h2 (tiny_show f2 t2) ?_
        walk_at "rd"
        refine k _ _ (Evl.Ex.refl _) ?_
        rw [decide_eq_true_eq, V.str.injEq]
        exact shown_eq a1 a2 e1
    cases e1 : isListD d1 with
    | false =>
      walk_at "rd"
      exact two false e1 fun h => by cases h
    | true =>
      walk_at "rd"
      refine r_isiD_list h2 ?_
      walk_at "rd"
      cases e2 : isListD d2 with
      | false =>
        walk_at "rd"
        exact two true e1 fun _ => e2
      | true =>
        walk_at "rd"
        obtain ⟨as, rfl⟩ : ∃ as, d1 = .list as := by cases d1 <;> first | exact ⟨_, rfl⟩ | cases e1
        obtain ⟨bs, rfl⟩ : ∃ bs, d2 = .list bs := by cases d2 <;> first | exact ⟨_, rfl⟩ | cases e2
        obtain ⟨p1, xs1, rfl, s1, r1⟩ : ∃ (p : Addr) (xs : List V), v1 = .ref p ∧ SqL K H p xs ∧ DpAll K H xs as := by cases h1 with | lst s r => exact ⟨_, _, rfl, s, r⟩
        obtain ⟨p2, xs2, rfl, s2, r2⟩ : ∃ (p : Addr) (xs : List V), v2 = .ref p ∧ SqL K H p xs ∧ DpAll K H xs bs := by cases h2 with | lst s r => exact ⟨_, _, rfl, s, r⟩
        have l1 := DpAll.length r1
        have l2 := DpAll.length r2
        have q1 := (fit_list f1).1
        refine r_lenL s1 ?_
        walk_at "rd"
        refine r_lenL s2 ?_
        walk_at "rd"
        refine iteND (fun hne => ?_) (fun heq => ?_)
        · walk_at "rd"
          refine k false _ (Evl.Ex.refl _) ⟨fun h => (by cases h), fun h => absurd ?_ hne⟩
          injection h with h
          rw [l1, l2, h]
        · have hl : as.length = bs.length := by
            injection heq with heq
            omega
          walk_at "rd"
          refine r_lenL s1 ?_
          walk_at "rd"
          refine ⟨_, rfl, by omega, by omega, fun D hD => ?_⟩
          rw [show ((xs1.length : Nat) : Int).toNat = as.length by omega]
          refine lc_rf hD (by omega) (fun i => !decide (((as[i]?).map PyData.shown) = (bs[i]?).map PyData.shown)) ?_ ?_ ?_
          · exact fun _ => rfl
          · intro i H' hi e Q' R g1 g2
            obtain ⟨x, hx⟩ : ∃ x, xs1[i]? = some x := ⟨_, List.getElem?_eq_getElem (by omega)⟩
            obtain ⟨y, hy⟩ : ∃ y, xs2[i]? = some y := ⟨_, List.getElem?_eq_getElem (by omega)⟩
            obtain ⟨a, ha, hxa⟩ := dp_get r1 hx
            obtain ⟨b, hb, hyb⟩ := dp_get r2 hy
            rw [ha, hb] at g1 g2
            walk_at "rd"
            rw [Int.zero_add]
            refine r_ixL (Evl.ex_l e s1) (atI_nat hx) ?_
            walk_at "rd"
            refine r_reprT (Dp.mono e hxa) (items_ans a1 f1 t1 ha).2 ?_
            walk_at "rd"
            refine r_ixL (Evl.ex_l e s2) (atI_nat hy) ?_
            walk_at "rd"
            refine r_reprT (Dp.mono e hyb) (items_ans a2 f2 t2 hb).2 ?_
            walk_at "rd"
            refine iteND (fun hne => ?_) (fun heq => ?_)
            · walk_at "rd"
              exact g1 (by simpa using fun h => hne (by rw [h])) _ (Evl.Ex.refl _)
            · injection heq with heq
              exact g2 (by simp [heq]) _ (Evl.Ex.refl _)
          · intro H' e hD'
            walk_at "rd"
            refine ⟨by show 0 ≤ sizeLine; decide, fun N hN => ?_⟩
            have eN : Evl.Ex H' (upd H' N (.lst [])) := Evl.Ex.new hN
            refine r_eqD (.lst (SqL.of (eN _ _ hD')) (ints_dp _)) (.lst (SqL.of upd_same) .nil) (ints_shaped _) (by decide) ?_
            refine k _ _ (e.trans eN) ?_
            have key := lists_eq (p := fun i => !decide (((as[i]?).map PyData.shown) = (bs[i]?).map PyData.shown)) a1 a2 hl fun i a b ha hb => by
              rw [ha, hb]
              simp
            rw [PyData.list.injEq, ← key]
            generalize (List.range as.length).filter _ = l
            cases l <;> simp [PyData.eqv, PyData.eqvAll]
theorem c_are (F : At K mg "_law_are_entries" s_law_are_entries) (B : Bl mg) (f_repr : mg "repr" = none) (c_law_kept : Cal P w K mg base 2 "_law_kept" (spKept K)) (c_law_equal : CalT P w K mg base 1 "_law_equal" (spEqual K)) : CalT P w K mg base 3 "_law_are_entries" (spAre K) := by
  refine calT_of F sc_law_are_entries (fun vs H Q E h => ?_) (fun _ _ _ _ _ _ us hl => match us, hl with | [_, _], _ => rfl) (fun f cdv A outer s H vs Q E hgd hr h => ?_)
  · obtain ⟨v, L, xs, ps, tab, ag, G, rfl, _⟩ := h
    rfl
  · obtain ⟨v, L, xs, ps, tab, ag, G, rfl, eG, hL, hR, hT, hd, k⟩ := h
    refine ⟨_, (pss_cons (ps_set (i := 2) sc_law_are_entries.nd rfl (Or.inl rfl) (pe_cA c_law_kept hr (by omega) rfl (pa_cons (pv 1) pa_nil)))
  (pss_cons (ps_if (PW.pt (pw_or (pt_not (pt_val (pe_callB (call_isinstanceA K) rfl B.isinstance (by decide +kernel) (pa_cons (pv 0) (pa_cons (pe_bltn (v := .ty "tuple") rfl B.tuple (by decide +kernel) rfl) pa_nil))))) (pw_or1 (pt_cmpR (op_neA K hr.units) (pe_callB (call_lenA K) rfl B.len (by decide +kernel) (pa_cons (pv 0) pa_nil)) (pe_callB (call_lenA K) rfl B.len (by decide +kernel) (pa_cons (pv 2) pa_nil)) (nomark _)))))
   (pss_one (ps_ret pe_bl))
   pss_nil)
  (pss_cons (ps_for PassesOwn.never rfl (pi_range1 rfl B.range (pa_cons (pe_callB (call_lenA K) rfl B.len (by decide +kernel) (pa_cons (pv 2) pa_nil)) pa_nil)) (pg_name (i := 3) sc_law_are_entries.nd rfl (Or.inl rfl))
   (pss_cons (ps_if (PW.pt (pw_or (pt_not (pt_val (pe_callB (call_isinstanceA K) rfl B.isinstance (by decide +kernel) (pa_cons (pe_ix (ix_A K) (pv 0) (pv 3) (fun _ _ => rfl)) (pa_cons (pe_bltn (v := .ty "tuple") rfl B.tuple (by decide +kernel) rfl) pa_nil))))) (pw_or1 (pt_cmpR (op_neA K hr.units) (pe_callB (call_lenA K) rfl B.len (by decide +kernel) (pa_cons (pe_ix (ix_A K) (pv 0) (pv 3) (fun _ _ => rfl)) pa_nil)) pe_int (nomark _)))))
   (pss_one (ps_ret pe_bl))
   pss_nil)
  (pss_one (ps_if (PW.pt (pw_or (pt_cmpR (op_neA K hr.units) (pe_callB (call_repr K hgd hr) rfl f_repr (by decide +kernel) (pa_cons (pe_ix (ix_A K) (pe_ix (ix_A K) (pv 0) (pv 3) (fun _ _ => rfl)) pe_int (fun _ _ => rfl)) pa_nil)) (pe_callB (call_repr K hgd hr) rfl f_repr (by decide +kernel) (pa_cons (pe_ix (ix_A K) (pe_ix (ix_A K) (pv 2) (pv 3) (fun _ _ => rfl)) pe_int (fun _ _ => rfl)) pa_nil)) (nomark _)) (pw_or1 (pt_not (pt_val (pe_cT c_law_equal hgd hr (by omega) rfl (pa_cons (pe_ix (ix_A K) (pe_ix (ix_A K) (pv 0) (pv 3) (fun _ _ => rfl)) pe_int (fun _ _ => rfl)) (pa_cons (pe_ix (ix_A K) (pe_ix (ix_A K) (pv 2) (pv 3) (fun _ _ => rfl)) pe_int (fun _ _ => rfl)) pa_nil))))))))
   (pss_one (ps_ret pe_bl))
   pss_nil))))
  (pss_one (ps_ret pe_bl))))), ?_⟩
    obtain ⟨a, us, rfl, su, ru⟩ : ∃ (p : Addr) (xs : List V), v = .ref p ∧ SqT K H p xs ∧ DpAll K H xs (tab.map rowP) := by
      unfold tabP at hd
      cases hd with
      | tup s r => exact ⟨_, _, rfl, s, r⟩
    have hul : us.length = tab.length := by rw [DpAll.length ru, List.length_map]
    have few := hR.few
    have hpl := Paired.len hR.at_
    have htl := hT.len
    walk_at "rd"
    refine ⟨L, xs, ps, ag, G, rfl, eG, hL, hR, fun R ys tab' H1 e1 hR0 hR1 hT' hys => ?_⟩
    obtain rfl := hT'.uniq hT
    have hyl := Paired.len hys
    have sR : SqL K H1 R ys := SqL.of hR1
    replace su := Evl.ex_t e1 su
    replace ru := DpAll.mono e1 ru
    have hys' := Paired.monoP (fun _ _ q => RowV.mono (ext_ex eG e1) q) hys
    walk_at "rd"
    refine r_isi_tup_tuple su ?_
    walk_at "rd"
    refine iteFc rfl ?_
    walk_at "rd"
    refine r_lenT su ?_
    walk_at "rd"
    refine r_lenL sR ?_
    walk_at "rd"
    refine iteND (fun h => absurd (by rw [hul, hyl]) h) (fun _ => ?_)
    walk_at "rd"
    refine r_lenL sR ?_
    walk_at "rd"
    refine ⟨_, rfl, by omega, by omega, for_range (lo := 0) (n := ((ys.length : Nat) : Int).toNat) (fun i σ H' => (∃ w3 : Option V, σ = [some (.ref a), some (.ref L), some (.ref R), w3]) ∧ Evl.Ex H1 H') ?_ ?_ ?_⟩
    · exact ⟨⟨_, rfl⟩, Evl.Ex.refl _⟩
    · rintro i σ H2 hi ⟨⟨w3, rfl⟩, e2⟩
      obtain ⟨u, hu⟩ : ∃ x, us[i]? = some x := ⟨_, List.getElem?_eq_getElem (by omega)⟩
      obtain ⟨y, hy⟩ : ∃ y, ys[i]? = some y := ⟨_, List.getElem?_eq_getElem (by omega)⟩
      obtain ⟨t, ht, e, p, va, rfl, he, hp, hva, hok⟩ := rowAt hys' hy
      obtain ⟨d, hd, hud⟩ := dp_get ru hu
      rw [List.getElem?_map, ht] at hd
      cases hd
      obtain ⟨c, x0, x1, rfl, sc, dx0, dx1⟩ : ∃ (c : Addr) (x0 x1 : V), u = .ref c ∧ SqT K H1 c [x0, x1] ∧ Dp K H1 x0 (.tuple (t.1.map PyData.str)) ∧ Dp K H1 x1 t.2 := by
        unfold rowP at hud
        cases hud with
        | tup s r =>
          cases r with
          | cons r0 r =>
          cases r with
          | cons r1 r =>
          cases r with
          | nil => exact ⟨_, _, _, rfl, s, r0, r1⟩
      have pf : fit (.tuple (t.1.map PyData.str)) = true := by
        rw [fit, fitAll_of (fun d hd => by obtain ⟨z, hz, rfl⟩ := List.mem_map.mp hd; exact (hok.2.2.2 z hz).fit), Bool.and_true]
        exact decide_eq_true (by rw [List.length_map]; have := hok.2.1; omega)
      have psh : ShowD (.tuple (t.1.map PyData.str)) := path_show pf (by have := hok.2.1; omega) fun z hz => (hok.2.2.2 z hz).len
      have su2 := Evl.ex_t e2 su
      have sR2 := Evl.ex_l e2 sR
      have sc2 := Evl.ex_t e2 sc
      have he2 := SqT.of (K := K) (e2 _ _ he)
      walk_at "rd"
      rw [Int.zero_add]
      refine r_ixT su2 (atI_nat hu) ?_
      walk_at "rd"
      refine r_isi_tup_tuple sc2 ?_
      walk_at "rd"
      refine iteFc rfl ?_
      walk_at "rd"
      refine r_ixT su2 (atI_nat hu) ?_
      walk_at "rd"
      refine r_lenT sc2 ?_
      walk_at "rd"
      refine iteND (fun h => absurd rfl h) (fun _ => ?_)
      walk_at "rd"
      refine r_ixT su2 (atI_nat hu) ?_
      walk_at "rd"
      refine r_ixT sc2 (atI_nat (j := 0) rfl) ?_
      walk_at "rd"
      refine r_reprT (Dp.mono e2 dx0) psh ?_
      walk_at "rd"
      refine r_ixL sR2 (atI_nat hy) ?_
      walk_at "rd"
      refine r_ixT he2 (atI_nat (j := 0) rfl) ?_
      walk_at "rd"
      refine r_reprT (.tup (SqT.of (e2 _ _ hp)) (path_dp t.1)) psh ?_
      walk_at "rd"
      refine iteND (fun h => absurd rfl h) (fun _ => ?_)
      walk_at "rd"
      refine r_ixT su2 (atI_nat hu) ?_
      walk_at "rd"
      refine r_ixT sc2 (atI_nat (j := 1) rfl) ?_
      walk_at "rd"
      refine r_ixL sR2 (atI_nat hy) ?_
      walk_at "rd"
      refine r_ixT he2 (atI_nat (j := 1) rfl) ?_
      walk_at "rd"
      refine ⟨x1, va, t.2, t.2, rfl, ⟨Dp.mono e2 dx1, hva.2⟩, hva.mono e2, fun r H3 e3 hr => ⟨_, rfl, ?_⟩⟩
      rw [hr.mpr rfl]
      walk_at "rd"
      exact ⟨⟨_, rfl⟩, e2.trans e3⟩
    · rintro σ H2 ⟨⟨w3, rfl⟩, e2⟩
      walk_at "rd"
      exact k _ (e1.trans e2)
end

end WP

set_option Elab.async false
set_option linter.all false
set_option maxRecDepth 100000
set_option maxHeartbeats 4000000
namespace WP
open PySem PySem.Spec PyProof.Rows L2
local macro_rules | `(tactic| walk_at "rd") => `(tactic| repeat (first
  | with_reducible refine r_seq ?_ | with_reducible refine r_fld ?_ | with_reducible refine r_prop ?_ | with_reducible refine r_revT ?_ | with_reducible refine r_fldS ?_ | with_reducible refine r_meth ?_ | with_reducible refine r_methX ?_ | with_reducible refine r_make ?_ | with_reducible refine r_makeS ?_ | with_reducible refine r_makeKS ?_ | with_reducible refine r_dcA ?_ | with_reducible refine r_addOS ?_ | with_reducible refine r_dgetT ?_ | with_reducible refine r_dputT ?_ | with_reducible refine r_dget2T ?_ | with_reducible refine r_starT ?_ | with_reducible refine r_statT ?_ | with_reducible refine r_par3 ?_ | with_reducible refine r_callR ?_ | with_reducible refine r_callS ?_ | with_reducible refine r_mkO ?_ | with_reducible refine r_raise ?_ | with_reducible refine r_callW ?_ | with_reducible refine r_tru ?_ | with_reducible refine r_var rfl ?_ | with_reducible refine r_c ?_ | with_reducible refine r_op ?_ | with_reducible refine r_cons ?_ | with_reducible refine r_nil ?_
  | with_reducible refine r_cb ?_ | with_reducible refine r_call ?_ | with_reducible refine r_test ?_ | with_reducible refine r_B ?_ | with_reducible refine r_bl ?_ | with_reducible refine r_asg ?_ | with_reducible refine r_asgS ?_
  | with_reducible refine r_ret ?_ | with_reducible refine r_drop ?_ | with_reducible refine r_ifS ?_ | with_reducible refine r_if ?_ | with_reducible refine r_and ?_ | with_reducible refine r_or ?_ | with_reducible refine r_not ?_
  | with_reducible refine r_andV ?_ | with_reducible refine r_orV ?_ | with_reducible refine r_notV ?_ | with_reducible refine r_chain ?_ | with_reducible refine r_sl ?_ | with_reducible refine r_nopart ?_ | with_reducible refine r_part ?_ | with_reducible refine r_partN ?_ | with_reducible refine r_xv ?_ | with_reducible refine r_xo ?_ | with_reducible refine r_mkV ?_ | with_reducible refine r_forG ?_ | with_reducible refine r_listG ?_ | with_reducible refine r_methG ?_
  | with_reducible refine r_intO ?_ | with_reducible refine r_two ?_ | with_reducible refine r_m1 ?_ | with_reducible refine r_bm ?_ | with_reducible refine r_next ?_ | with_reducible refine r_gCons ?_ | with_reducible refine r_gNil ?_ | with_reducible refine r_asgT ?_ | with_reducible refine r_for ?_ | with_reducible refine r_rng1 ?_ | with_reducible refine r_iList ?_ | with_reducible refine r_iAny ?_ | with_reducible refine r_lc ?_ | with_reducible refine r_yes ?_ | with_reducible refine r_gN ?_ | with_reducible refine r_par ?_ | with_reducible refine r_un ?_ | with_reducible refine r_brk ?_ | with_reducible refine r_cont ?_
  | with_reducible refine r_I0 ?_ | with_reducible refine r_U ?_ | with_reducible refine r_addI ?_ | with_reducible refine r_abs ?_ | with_reducible refine r_intI ?_ | with_reducible refine r_max2 ?_ | with_reducible refine r_min2 ?_
  | with_reducible refine r_ltI ?_ | with_reducible refine r_leI ?_ | with_reducible refine r_gtI ?_ | with_reducible refine r_geI ?_ | with_reducible refine r_isN_non ?_ | with_reducible refine r_isN_int ?_ | with_reducible refine r_isN_str ?_ | with_reducible refine r_isN_bl ?_ | with_reducible refine r_isN_ref ?_ | with_reducible refine r_isN ?_ | with_reducible refine r_isB ?_ | with_reducible refine r_isnotN_non ?_ | with_reducible refine r_isnotN_int ?_ | with_reducible refine r_isnotN_str ?_ | with_reducible refine r_isnotN_bl ?_ | with_reducible refine r_isnotN_ref ?_ | with_reducible refine r_isnotN ?_ | with_reducible refine r_isnotB ?_
  | with_reducible refine r_inS ?_ | with_reducible refine r_eqS rfl ?_ | with_reducible refine r_neS rfl ?_ | with_reducible refine r_lst ?_ | with_reducible refine r_tup ?_ | with_reducible refine iteT ?_ | with_reducible refine iteF ?_))
local macro_rules | `(tactic| walk_at "isi") => `(tactic| (first
  | with_reducible refine r_isi_non_int ?_
  | with_reducible refine r_isi_non_str ?_
  | with_reducible refine r_isi_non_list ?_
  | with_reducible refine r_isi_non_tuple ?_
  | with_reducible refine r_isi_non_bool ?_
  | with_reducible refine r_isi_bl_int ?_
  | with_reducible refine r_isi_bl_str ?_
  | with_reducible refine r_isi_bl_list ?_
  | with_reducible refine r_isi_bl_tuple ?_
  | with_reducible refine r_isi_bl_bool ?_
  | with_reducible refine r_isi_int_int ?_
  | with_reducible refine r_isi_int_str ?_
  | with_reducible refine r_isi_int_list ?_
  | with_reducible refine r_isi_int_tuple ?_
  | with_reducible refine r_isi_int_bool ?_
  | with_reducible refine r_isi_str_int ?_
  | with_reducible refine r_isi_str_str ?_
  | with_reducible refine r_isi_str_list ?_
  | with_reducible refine r_isi_str_tuple ?_
  | with_reducible refine r_isi_str_bool ?_
  | with_reducible refine r_isi_lst_int (SqL.of (by assumption)) ?_
  | with_reducible refine r_isi_lst_str (SqL.of (by assumption)) ?_
  | with_reducible refine r_isi_lst_list (SqL.of (by assumption)) ?_
  | with_reducible refine r_isi_lst_tuple (SqL.of (by assumption)) ?_
  | with_reducible refine r_isi_lst_bool (SqL.of (by assumption)) ?_
  | with_reducible refine r_isi_tup_int (SqT.of (by assumption)) ?_
  | with_reducible refine r_isi_tup_str (SqT.of (by assumption)) ?_
  | with_reducible refine r_isi_tup_list (SqT.of (by assumption)) ?_
  | with_reducible refine r_isi_tup_tuple (SqT.of (by assumption)) ?_
  | with_reducible refine r_isi_tup_bool (SqT.of (by assumption)) ?_))
local macro_rules | `(tactic| walk_at "rs") => `(tactic| (first
  | ((with_reducible refine iteTc ?hc ?_); (case hc => rfl)) | ((with_reducible refine iteFc ?hc ?_); (case hc => rfl))
  | walk_at "isi"
  | refine r_ixL (SqL.of (by assumption)) rfl ?_ | refine r_ixL (SqL.of upd_same) rfl ?_
  | refine r_I (C := fun _ j => 0 < j) (by first | decide | assumption | omega) ?_
  | refine r_mulI (.inl ⟨by decide, by decide⟩) ?_ | refine r_mulI (.inr ⟨by decide, by decide⟩) ?_ | refine r_mulI (.inr ⟨by omega, by omega⟩) ?_ | refine r_mulI (.inl ⟨by omega, by omega⟩) ?_
  | refine r_I (wide_div (b := 64) (by decide) (by decide) (by decide) (by decide)) ?_
  | refine r_I (C := CPow) ⟨by decide, by decide, by decide⟩ ?_
  | refine r_setL (by assumption) rfl ?_ | refine r_setL upd_same rfl ?_))
local macro_rules | `(tactic| walk_at "rx") => `(tactic| (walk_at "rd"; (repeat (walk_at "rs"; walk_at "rd"))))
local macro_rules | `(tactic| walk_at "rl") => `(tactic| repeat (first
  | with_reducible refine r_seq ?_ | with_reducible refine r_fld ?_ | with_reducible refine r_prop ?_ | with_reducible refine r_revT ?_ | with_reducible refine r_fldS ?_ | with_reducible refine r_meth ?_ | with_reducible refine r_methX ?_ | with_reducible refine r_make ?_ | with_reducible refine r_makeS ?_ | with_reducible refine r_makeKS ?_ | with_reducible refine r_dcA ?_ | with_reducible refine r_addOS ?_ | with_reducible refine r_dgetT ?_ | with_reducible refine r_dputT ?_ | with_reducible refine r_dget2T ?_ | with_reducible refine r_starT ?_ | with_reducible refine r_statT ?_ | with_reducible refine r_par3 ?_ | with_reducible refine r_callR ?_ | with_reducible refine r_callS ?_ | with_reducible refine r_mkO ?_ | with_reducible refine r_raise ?_ | with_reducible refine r_callW ?_ | with_reducible refine r_tru ?_ | with_reducible refine r_var rfl ?_ | with_reducible refine r_c ?_ | with_reducible refine r_op ?_ | with_reducible refine r_cons ?_ | with_reducible refine r_nil ?_
  | with_reducible refine r_cb ?_ | with_reducible refine r_call ?_ | with_reducible refine r_test ?_ | with_reducible refine r_B ?_ | with_reducible refine r_bl ?_ | with_reducible refine r_asg ?_ | with_reducible refine r_asgS ?_
  | with_reducible refine r_ret ?_ | with_reducible refine r_drop ?_ | with_reducible refine r_ifS ?_ | with_reducible refine r_if ?_ | with_reducible refine r_and ?_ | with_reducible refine r_or ?_ | with_reducible refine r_not ?_
  | with_reducible refine r_andV ?_ | with_reducible refine r_orV ?_ | with_reducible refine r_notV ?_ | with_reducible refine r_chain ?_ | with_reducible refine r_sl ?_ | with_reducible refine r_nopart ?_ | with_reducible refine r_part ?_ | with_reducible refine r_partN ?_ | with_reducible refine r_xv ?_ | with_reducible refine r_xo ?_ | with_reducible refine r_mkV ?_ | with_reducible refine r_forG ?_ | with_reducible refine r_listG ?_ | with_reducible refine r_methG ?_
  | with_reducible refine r_intO ?_ | with_reducible refine r_two ?_ | with_reducible refine r_m1 ?_ | with_reducible refine r_bm ?_ | with_reducible refine r_next ?_ | with_reducible refine r_gCons ?_ | with_reducible refine r_gNil ?_ | with_reducible refine r_asgT ?_ | with_reducible refine r_for ?_ | with_reducible refine r_rng1 ?_ | with_reducible refine r_iList ?_ | with_reducible refine r_iAny ?_ | with_reducible refine r_lc ?_ | with_reducible refine r_yes ?_ | with_reducible refine r_gN ?_ | with_reducible refine r_par ?_ | with_reducible refine r_un ?_ | with_reducible refine r_brk ?_ | with_reducible refine r_cont ?_
  | with_reducible refine r_I0 ?_ | with_reducible refine r_U ?_ | with_reducible refine r_addI ?_ | with_reducible refine r_abs ?_ | with_reducible refine r_intI ?_ | with_reducible refine r_max2 ?_ | with_reducible refine r_min2 ?_
  | with_reducible refine r_ltI ?_ | with_reducible refine r_leI ?_ | with_reducible refine r_gtI ?_ | with_reducible refine r_geI ?_ | with_reducible refine r_isN_non ?_ | with_reducible refine r_isN_int ?_ | with_reducible refine r_isN_str ?_ | with_reducible refine r_isN_bl ?_ | with_reducible refine r_isN_ref ?_ | with_reducible refine r_isN ?_ | with_reducible refine r_isB ?_ | with_reducible refine r_isnotN_non ?_ | with_reducible refine r_isnotN_int ?_ | with_reducible refine r_isnotN_str ?_ | with_reducible refine r_isnotN_bl ?_ | with_reducible refine r_isnotN_ref ?_ | with_reducible refine r_isnotN ?_ | with_reducible refine r_isnotB ?_
  | with_reducible refine r_inS ?_ | with_reducible refine r_eqS rfl ?_ | with_reducible refine r_neS rfl ?_ | with_reducible refine iteT ?_ | with_reducible refine iteF ?_))
local macro_rules | `(tactic| walk_at "bld") => `(tactic| repeat' (first
  | exact bldA_nil | refine bldA_cons ?_ ?_ | refine bld_tup ?_ | refine bld_lst ?_ | exact bld_str | exact bld_int | exact bld_non | exact bld_bl | refine bld_mul ?_ (mulOk_w (by decide) (by decide) (by decide +kernel)) | refine bld_add ?_ ?_ ?_))

/-! ### a part made of right rows -/
def goodE (ag : Bool) (d : PyData) (z : List Str) : Prop := isEntryD ag d = true ∧ pathD d = z
theorem good_none {ag : Bool} : ∀ {gs : List PyData} {ps seen : List (List Str)}, Paired (goodE ag) gs ps → ps.Nodup → (∀ z ∈ ps, z ∉ seen) → badAt ag seen gs = none
  | [], [], seen, .nil, _, _ => rfl
  | g :: gs, p :: ps, seen, .cons hg hr, nd, hs => by
    obtain ⟨g1, rfl⟩ := hg
    obtain ⟨n1, n2⟩ := List.nodup_cons.mp nd
    have q : isEntryD ag g = true ∧ pathD g ∉ seen := ⟨g1, hs _ (List.mem_cons_self ..)⟩
    show (if isEntryD ag g = true ∧ pathD g ∉ seen then (badAt ag (pathD g :: seen) gs).map (· + 1) else some 0) = none
    have s1 : ∀ z ∈ ps, z ∉ pathD g :: seen := fun z hz hm => by
      rcases List.mem_cons.mp hm with e | hm
      · exact n1 (e ▸ hz)
      · exact hs z (List.mem_cons_of_mem _ hz) hm
    rw [if_pos q, good_none hr n2 s1]
    rfl
theorem path_texts (zs : List Str) : pathD (.tuple [.tuple (zs.map PyData.str), .none]) = zs := by
  show (zs.map PyData.str).map _ = zs
  rw [List.map_map]
  exact (List.map_congr_left fun _ _ => rfl).trans (List.map_id zs)
theorem rowD_rowP (t : List Str × PyData) : rowD (rowP t) = t := Prod.ext (path_texts t.1) rfl
theorem PathOk.pf {ag : Bool} {zs : List Str} (h : PathOk ag zs) : fit (.tuple (zs.map PyData.str)) = true := by
  rw [fit, fitAll_of (fun d hd => by obtain ⟨z, hz, rfl⟩ := List.mem_map.mp hd; exact (h.2.2.2 z hz).fit), Bool.and_true]
  exact decide_eq_true (by rw [List.length_map]; have := h.2.1; omega)
theorem row_ent {K : PySem.W.Frag} {G : Hp} {ag : Bool} {v : V} {t : List Str × PyData} (h : RowV K G ag v t) : EntT K G ag v (rowP t) ∧ fit (rowP t) = true ∧ goodE ag (rowP t) t.1 := by
  obtain ⟨e, p, va, rfl, he, hp, ⟨h1, h2, h3, h4⟩, hok⟩ := h
  refine ⟨⟨.tup (SqT.of he) (.cons (.tup (SqT.of hp) (path_dp t.1)) (.cons h1 .nil)), fun _ => ⟨e, p, t.1, va, t.2, rfl, SqT.of he, hp, rfl, h1⟩⟩, ?_, ?_, path_texts t.1⟩
  · rw [rowP, fit, fitAll, fitAll, fitAll, hok.pf, h2]
    rfl
  · show (isPathD ag (.tuple (t.1.map PyData.str)) && isAnswerD t.2) = true
    rw [h3, Bool.and_true]
    show (!(decide ((t.1.map PyData.str).length = 0) || (!ag && decide (1 < (t.1.map PyData.str).length))) && (t.1.map PyData.str).all isCallD) = true
    obtain ⟨q1, q2, q3, q4⟩ := hok
    have l0 : 0 < t.1.length := List.length_pos_iff.mpr q1
    have a : (t.1.map PyData.str).all isCallD = true := by
      rw [List.all_map, List.all_eq_true]
      exact fun z hz => (q4 z hz).is
    rw [a, Bool.and_true, List.length_map, decide_eq_false (by omega), Bool.false_or]
    cases ag with
    | true => rfl
    | false => rw [decide_eq_false (by have := q3 rfl; omega)]; rfl
theorem RowV.ok {K : PySem.W.Frag} {G : Hp} {ag : Bool} {v : V} {t : List Str × PyData} (h : RowV K G ag v t) : RowOk t := by
  obtain ⟨e, p, va, rfl, he, hp, ⟨h1, h2, h3, h4⟩, hok⟩ := h
  exact ⟨hok.1, hok.pf, h2, h3⟩
theorem rows_ent {K : PySem.W.Frag} {G : Hp} {ag : Bool} : ∀ {xs : List V} {ps : PTab}, Paired (RowV K G ag) xs ps → Paired (EntT K G ag) xs (ps.map rowP) ∧ fitAll (ps.map rowP) = true ∧ Paired (goodE ag) (ps.map rowP) (ps.map (·.1)) ∧ (ps.map rowP).map rowD = ps ∧ ∀ t ∈ ps, RowOk t
  | _, _, .nil => ⟨.nil, by rw [List.map_nil, fitAll], .nil, rfl, fun _ h => by cases h⟩
  | _ :: _, t :: _, .cons h r => by
    obtain ⟨h1, h2, h3⟩ := row_ent h
    obtain ⟨g1, g2, g3, g4, g5⟩ := rows_ent r
    refine ⟨.cons h1 g1, by rw [List.map_cons, fitAll, h2, g2]; rfl, .cons h3 g3, by rw [List.map_cons, List.map_cons, rowD_rowP, g4], fun u hu => ?_⟩
    rcases List.mem_cons.mp hu with rfl | hu
    · exact h.ok
    · exact g5 u hu
theorem pairedGet {α β : Type} {R : α → β → Prop} : ∀ {xs : List α} {ys : List β} {i : Nat} {x : α}, Paired R xs ys → xs[i]? = some x → ∃ y, ys[i]? = some y ∧ R x y
  | _, _, _, _, .nil, h => by simp at h
  | _ :: _, _ :: _, 0, _, .cons h _, e => by
    simp only [List.getElem?_cons_zero, Option.some.injEq] at e
    subst e
    exact ⟨_, rfl, h⟩
  | _ :: _, _ :: _, i + 1, _, .cons _ r, e => by
    rw [List.getElem?_cons_succ] at e ⊢
    exact pairedGet r e
theorem mk_part {K : PySem.W.Frag} {C BP : Addr} {G H0 : Hp} {a : Addr} {ys : List V} {ps : PTab} {ag : Bool} {Q : Addr → Hp → Prop} {E : XK} (eG : Evl.Ex G H0) (hA : SqA K H0 a ys) (hP : Paired (RowV K G ag) ys ps) (nd : (ps.map (·.1)).Nodup) (few : ps.length ≤ 1000)
    (k : ∀ (x : Addr) (tab : PTab) (H' : Hp), Evl.Ex H0 H' → PartO K C (imm H0 H') x ag tab → TabOf ps tab → Q x H') : ∀ x dx, H0 x = none → H0 dx = none → dx ≠ x → spPart K C BP [.ref x, .ref a, .bl ag] (upd (upd H0 dx (.own x)) x (.ins C dx [])) (fun v H2 => v = .non ∧ Q x H2) E := by
  intro x dx hx hdx nxd
  have e1 : Evl.Ex H0 (upd (upd H0 dx (.own x)) x (.ins C dx [])) := (Evl.Ex.new hdx).trans (Evl.Ex.new (by rw [upd_ne nxd.symm]; exact hx))
  have hxv : upd (upd H0 dx (.own x)) x (.ins C dx []) x = some (.ins C dx []) := upd_same
  generalize upd (upd H0 dx (.own x)) x (.ins C dx []) = H1 at e1 hxv ⊢
  obtain ⟨g1, g2, g3, g4, g5⟩ := rows_ent hP
  have hn : badAt ag [] (ps.map rowP) = none := good_none g3 nd fun _ _ h => by cases h
  refine ⟨x, dx, .ref a, ag, rfl, hxv, .inr ⟨a, ys, ps.map rowP, rfl, hA.mono e1, Paired.monoP (fun _ _ q => q.mono (eG.trans e1)) g1, g2, by rw [List.length_map]; exact few, fun kk hk => (by rw [hn] at hk; cases hk), fun _ H' T kvs tab e2 hT hT' hK htab _ => ⟨rfl, ?_⟩⟩⟩
  rw [g4] at htab
  have nTx : T ≠ x := fun q => by rw [q, hxv] at hT; cases hT
  have hT0 := ex_dom e1 hT
  refine k x tab _ (Evl.Ex.mut (e1.trans e2) hx) ⟨⟨dx, T, kvs, imm_new hx upd_same, imm_new hT0 (by rw [upd_ne nTx]; exact hT'), hK.mono ?_⟩, htab.asc, fun t ht => ⟨g5 t (htab.mem.mp ht).1, (htab.mem.mp ht).2⟩, Nat.le_trans htab.len few⟩ htab
  refine (imm_base3 e1 e2 hxv rfl).trans ?_
  rw [← imm_put (o := .ins C dx [("ageing", .bl ag), ("table", .ref T)]) hx]
  exact hid_ex

abbrev N_law_is_right : List Str := ["_law_part", "_law_due", "_law_aged", "_law_heavy", "_law_path_here", "_law_answer", "_law_turn", "_law_told"]
theorem sc_law_is_right : FnScope N_law_is_right ["_law_part", "_law_due", "_law_aged"] (defScope s_law_is_right) := ⟨rfl, rfl, rfl, by decide +kernel, rfl, by decide +kernel, by decide +kernel⟩
def spIsRight (K : PySem.W.Frag) (C : Addr) : Sp := fun vs H Q _ => ∃ (x L : Addr) (xs : List V) (ps tab : PTab) (ag : Bool) (G : Hp), vs = [.ref x, .ref L, .bl ag] ∧ Evl.Ex G H ∧ SqL K H L xs ∧ Rows K G ag xs ps ∧ TabOf ps tab ∧ PartO K C H x ag tab ∧ ∀ H', Evl.Ex H H' → Q (.bl true) H'
section
variable {P : Program} {w : World} {K : PySem.W.Frag} {mg : Str → Option Value} {base : Heap} {C : Addr}
theorem wt_sum {ps tab : PTab} (h : TabOf ps tab) : wtT tab = (ps.map fun t => ((wtD t.2 : Nat) : Int)).sum := by
  unfold wtT
  rw [sum_perm (h.perm.map _), sum_filter]
  intro t _ ht
  cases e : t.2 with
  | none => rfl
  | _ => rw [e] at ht; simp [isNonD] at ht
theorem c_is_right (F : At K mg "_law_is_right" s_law_is_right) (B : Bl mg) (T : PartT K C) (cl_Part : Cls K C) (f_sum : mg "sum" = none) (c_law_weight : Cal P w K mg base 1 "_law_weight" (spLWt K)) (c_law_kept : Cal P w K mg base 2 "_law_kept" (spKept K)) (c_law_are_entries : CalT P w K mg base 3 "_law_are_entries" (spAre K)) (c_law_is_integer : Cal P w K mg base 1 "_law_is_integer" (spB1 K isIntD))
    (c_Part_entries : CalP P w K mg base L2.CX0 2 C "entries" (spEntries K C)) (c_Part_weight : CalP P w K mg base L2.CX0 2 C "weight" (spPWt K C)) (c_Part_len : CalM P w K mg base L2.CX0 1 C "__len__" (spPLen K C)) : CalT P w K mg base 5 "_law_is_right" (spIsRight K C) := by
  refine calT_of F sc_law_is_right (fun vs H Q E h => ?_) (fun _ _ _ _ _ _ us hl => match us, hl with | [_, _, _], _ => rfl) (fun f cdv A outer s H vs Q E hgd hr h => ?_)
  · obtain ⟨x, L, xs, ps, tab, ag, G, rfl, _⟩ := h
    rfl
  · obtain ⟨x, L, xs, ps, tab, ag, G, rfl, eG, hL, hR, hT, hP, k⟩ := h
    refine ⟨_, (pss_cons (ps_set (i := 3) sc_law_is_right.nd rfl (Or.inl rfl) (pe_callB (cr_sumA K rfl) rfl f_sum (by decide +kernel) (pa_cons (pe_lc (own := [("_law_path_here", 4), ("_law_answer", 5)]) rfl sc_law_is_right.nd (pi_any K (pv 1)) (blkOk_by (N := N_law_is_right) (sc := defScope s_law_is_right) (by decide +kernel)) (fun _ _ _ _ _ => (pg_tupA K (n := 2) (pg_tup rfl (pgs_cons (pg_name (i := 4) sc_law_is_right.nd rfl (Or.inl rfl)) (pgs_cons (pg_name (i := 5) sc_law_is_right.nd rfl (Or.inl rfl)) pgs_nil))))) (fun _ _ _ _ _ => pts_nil) (fun _ _ _ _ _ => (pe_cA c_law_weight hr (by omega) rfl (pa_cons (pv 5) pa_nil)))) pa_nil)))
  (pss_cons (ps_for PassesOwn.never rfl (pi_range1 rfl B.range (pa_cons pe_int pa_nil)) (pg_name (i := 6) sc_law_is_right.nd rfl (Or.inl rfl))
   (pss_cons (ps_set (i := 7) sc_law_is_right.nd rfl (Or.inl rfl) (pe_cP c_Part_entries hr (by omega) cl_Part L2.pass0 (pv 0)))
  (pss_cons (ps_if (PW.pt (pw_or (pt_not (pt_val (pe_cT c_law_are_entries hgd hr (by omega) rfl (pa_cons (pv 7) (pa_cons (pv 1) pa_nil))))) (pw_or (pt_not (pt_val (pe_callB (call_isinstanceA K) rfl B.isinstance (by decide +kernel) (pa_cons (pe_fldA K (pv 0)) (pa_cons (pe_bltn (v := .ty "bool") rfl B.bool (by decide +kernel) rfl) pa_nil))))) (pw_or1 (pt_cmpR (op_neA K hr.units) (pe_fldA K (pv 0)) (pv 2) (nomark _))))))
   (pss_one (ps_ret pe_bl))
   pss_nil)
  (pss_cons (ps_if (PW.pt (pw_or (pt_not (pt_val (pe_cA c_law_is_integer hr (by omega) rfl (pa_cons (pe_cP c_Part_weight hr (by omega) cl_Part L2.pass0 (pv 0)) pa_nil)))) (pw_or1 (pt_cmpR (op_neA K hr.units) (pe_cP c_Part_weight hr (by omega) cl_Part L2.pass0 (pv 0)) (pv 3) (nomark _)))))
   (pss_one (ps_ret pe_bl))
   pss_nil)
  (pss_one (ps_if (pt_cmpR (op_neA K hr.units) (pe_callB (call_lenO c_Part_len hr (by omega) L2.pass0) rfl B.len (by decide +kernel) (pa_cons (pv 0) pa_nil)) (pe_callB (call_lenA K) rfl B.len (by decide +kernel) (pa_cons (pe_cA c_law_kept hr (by omega) rfl (pa_cons (pv 1) pa_nil)) pa_nil)) (nomark _))
   (pss_one (ps_ret pe_bl))
   pss_nil))))))
  (pss_one (ps_ret pe_bl)))), ?_⟩
    have few := hR.few
    have hlen := Paired.len hR.at_
    have htl := hT.len
    walk_at "rd"
    refine .inl ⟨L, rfl, ⟨_, hL⟩, fun M hM => ?_⟩
    refine lc_GL hM hL (by omega) (fun i _ v => ∃ t, ps[i]? = some t ∧ v = .int (wtD t.2 : Nat)) (fun _ _ _ _ _ h => h) ?_ ?_
    · intro i v hv H' e' hne Q' R q'
      obtain ⟨t, ht, e, p', va, rfl, he, hp', hva, hok'⟩ := rowAt hR.at_ hv
      refine r_gTup (SqT.of (e' _ _ (eG _ _ he))) rfl ?_
      walk_at "rd"
      refine ⟨rfl, ?_⟩
      walk_at "rd"
      exact ⟨va, t.2, rfl, Dp.mono (eG.trans e') hva.1, fun H2 e2 => q' _ _ e2 ⟨t, ht, rfl⟩⟩
    · intro H1 ys e1 hM1 hl hys
      have ey : ys = (ps.map fun t => ((wtD t.2 : Nat) : Int)).map V.int := by
        rw [List.map_map]
        exact map_of (by rw [hl, hlen]) hys
      rw [ey] at hM1
      refine ⟨M, _, rfl, SqL.of hM1, ?_⟩
      rw [← wt_sum hT]
      walk_at "rd"
      refine ⟨_, rfl, by decide, by decide, for_range (lo := 0) (n := (2 : Int).toNat) (fun i σ H' => (∃ w4 w5 w6 w7 : Option V, σ = [some (.ref x), some (.ref L), some (.bl ag), some (.int (wtT tab)), w4, w5, w6, w7]) ∧ Evl.Ex H1 H') ?_ ?_ ?_⟩
      · exact ⟨⟨_, _, _, _, rfl⟩, Evl.Ex.refl _⟩
      · rintro i σ H2 hi ⟨⟨w4, w5, w6, w7, rfl⟩, e2⟩
        have e02 := e1.trans e2
        have hP2 := hP.mono e02
        obtain ⟨⟨dx, Tb, kvs, hx, hTb, hkv⟩, _, _, _⟩ := id hP2
        walk_at "rd"
        refine ⟨x, dx, _, rfl, hx, x, ag, tab, rfl, hP2, fun v H3 e3 hv => ?_⟩
        have e03 := e02.trans e3
        walk_at "rd"
        refine ⟨v, L, xs, ps, tab, ag, G, rfl, eG.trans e03, Evl.ex_l e03 hL, hR, hT, Dp.mono (imm_ex e3) hv, fun H4 e4 => ?_⟩
        have e04 := e03.trans e4
        have e24 := e3.trans e4
        refine ⟨_, rfl, ?_⟩
        refine iteFc rfl ?_
        walk_at "rd"
        refine ⟨x, C, dx, _, .bl ag, rfl, e24 _ _ hx, T.cl, T.nA, rfl, ?_⟩
        walk_at "rd"
        refine r_isi_bl_bool ?_
        walk_at "rd"
        refine iteFc rfl ?_
        walk_at "rd"
        refine ⟨x, C, dx, _, .bl ag, rfl, e24 _ _ hx, T.cl, T.nA, rfl, ?_⟩
        walk_at "rd"
        refine iteND (fun h => absurd rfl h) (fun _ => ?_)
        walk_at "rd"
        refine ⟨x, dx, _, rfl, e24 _ _ hx, x, ag, tab, rfl, hP2.mono e24, fun H5 e5 => ?_⟩
        have e25 := e24.trans e5
        walk_at "rd"
        refine ⟨_, .int (wtT tab), rfl, .int _, by rw [fit], fun H6 e6 => ?_⟩
        have e26 := e25.trans e6
        walk_at "rd"
        refine iteFc rfl ?_
        walk_at "rd"
        refine ⟨x, dx, _, rfl, e26 _ _ hx, x, ag, tab, rfl, hP2.mono e26, fun H7 e7 => ?_⟩
        have e27 := e26.trans e7
        walk_at "rd"
        refine iteND (fun h => absurd rfl h) (fun _ => ?_)
        walk_at "rd"
        refine ⟨x, dx, _, rfl, e27 _ _ hx, x, ag, tab, rfl, hP2.mono e27, fun H8 e8 => ⟨_, rfl, by have := hP.few; omega, ?_⟩⟩
        have e28 := e27.trans e8
        have e08 := e02.trans e28
        walk_at "rd"
        refine ⟨L, xs, ps, ag, G, rfl, eG.trans e08, Evl.ex_l e08 hL, hR, fun R zs tab' H9 e9 _ hR9 hT9 hzs => ?_⟩
        obtain rfl := hT9.uniq hT
        walk_at "rd"
        refine r_lenL (SqL.of hR9) ?_
        walk_at "rd"
        refine iteND (fun h => absurd (by rw [Paired.len hzs]) h) (fun _ => ?_)
        walk_at "rd"
        exact ⟨⟨_, _, _, _, rfl⟩, e2.trans (e28.trans e9)⟩
      · rintro σ H2 ⟨⟨w4, w5, w6, w7, rfl⟩, e2⟩
        walk_at "rd"
        exact k _ (e1.trans e2)
end

end WP

set_option Elab.async false
set_option linter.all false
set_option maxRecDepth 100000
set_option maxHeartbeats 4000000
namespace WP
open PySem PySem.Spec PyProof.Rows L2
local macro_rules | `(tactic| walk_at "rd") => `(tactic| repeat (first
  | with_reducible refine r_seq ?_ | with_reducible refine r_fld ?_ | with_reducible refine r_prop ?_ | with_reducible refine r_revT ?_ | with_reducible refine r_fldS ?_ | with_reducible refine r_meth ?_ | with_reducible refine r_methX ?_ | with_reducible refine r_make ?_ | with_reducible refine r_makeS ?_ | with_reducible refine r_makeKS ?_ | with_reducible refine r_dcA ?_ | with_reducible refine r_addOS ?_ | with_reducible refine r_dgetT ?_ | with_reducible refine r_dputT ?_ | with_reducible refine r_dget2T ?_ | with_reducible refine r_starT ?_ | with_reducible refine r_statT ?_ | with_reducible refine r_par3 ?_ | with_reducible refine r_callR ?_ | with_reducible refine r_callS ?_ | with_reducible refine r_mkO ?_ | with_reducible refine r_raise ?_ | with_reducible refine r_callW ?_ | with_reducible refine r_tru ?_ | with_reducible refine r_var rfl ?_ | with_reducible refine r_c ?_ | with_reducible refine r_op ?_ | with_reducible refine r_cons ?_ | with_reducible refine r_nil ?_
  | with_reducible refine r_cb ?_ | with_reducible refine r_call ?_ | with_reducible refine r_test ?_ | with_reducible refine r_B ?_ | with_reducible refine r_bl ?_ | with_reducible refine r_asg ?_ | with_reducible refine r_asgS ?_
  | with_reducible refine r_ret ?_ | with_reducible refine r_drop ?_ | with_reducible refine r_ifS ?_ | with_reducible refine r_if ?_ | with_reducible refine r_and ?_ | with_reducible refine r_or ?_ | with_reducible refine r_not ?_
  | with_reducible refine r_andV ?_ | with_reducible refine r_orV ?_ | with_reducible refine r_notV ?_ | with_reducible refine r_chain ?_ | with_reducible refine r_sl ?_ | with_reducible refine r_nopart ?_ | with_reducible refine r_part ?_ | with_reducible refine r_partN ?_ | with_reducible refine r_xv ?_ | with_reducible refine r_xo ?_ | with_reducible refine r_mkV ?_ | with_reducible refine r_forG ?_ | with_reducible refine r_listG ?_ | with_reducible refine r_methG ?_
  | with_reducible refine r_intO ?_ | with_reducible refine r_two ?_ | with_reducible refine r_m1 ?_ | with_reducible refine r_bm ?_ | with_reducible refine r_next ?_ | with_reducible refine r_gCons ?_ | with_reducible refine r_gNil ?_ | with_reducible refine r_asgT ?_ | with_reducible refine r_for ?_ | with_reducible refine r_rng1 ?_ | with_reducible refine r_iList ?_ | with_reducible refine r_iAny ?_ | with_reducible refine r_lc ?_ | with_reducible refine r_yes ?_ | with_reducible refine r_gN ?_ | with_reducible refine r_par ?_ | with_reducible refine r_un ?_ | with_reducible refine r_brk ?_ | with_reducible refine r_cont ?_
  | with_reducible refine r_I0 ?_ | with_reducible refine r_U ?_ | with_reducible refine r_addI ?_ | with_reducible refine r_abs ?_ | with_reducible refine r_intI ?_ | with_reducible refine r_max2 ?_ | with_reducible refine r_min2 ?_
  | with_reducible refine r_ltI ?_ | with_reducible refine r_leI ?_ | with_reducible refine r_gtI ?_ | with_reducible refine r_geI ?_ | with_reducible refine r_isN_non ?_ | with_reducible refine r_isN_int ?_ | with_reducible refine r_isN_str ?_ | with_reducible refine r_isN_bl ?_ | with_reducible refine r_isN_ref ?_ | with_reducible refine r_isN ?_ | with_reducible refine r_isB ?_ | with_reducible refine r_isnotN_non ?_ | with_reducible refine r_isnotN_int ?_ | with_reducible refine r_isnotN_str ?_ | with_reducible refine r_isnotN_bl ?_ | with_reducible refine r_isnotN_ref ?_ | with_reducible refine r_isnotN ?_ | with_reducible refine r_isnotB ?_
  | with_reducible refine r_inS ?_ | with_reducible refine r_eqS rfl ?_ | with_reducible refine r_neS rfl ?_ | with_reducible refine r_lst ?_ | with_reducible refine r_tup ?_ | with_reducible refine iteT ?_ | with_reducible refine iteF ?_))
local macro_rules | `(tactic| walk_at "isi") => `(tactic| (first
  | with_reducible refine r_isi_non_int ?_
  | with_reducible refine r_isi_non_str ?_
  | with_reducible refine r_isi_non_list ?_
  | with_reducible refine r_isi_non_tuple ?_
  | with_reducible refine r_isi_non_bool ?_
  | with_reducible refine r_isi_bl_int ?_
  | with_reducible refine r_isi_bl_str ?_
  | with_reducible refine r_isi_bl_list ?_
  | with_reducible refine r_isi_bl_tuple ?_
  | with_reducible refine r_isi_bl_bool ?_
  | with_reducible refine r_isi_int_int ?_
  | with_reducible refine r_isi_int_str ?_
  | with_reducible refine r_isi_int_list ?_
  | with_reducible refine r_isi_int_tuple ?_
  | with_reducible refine r_isi_int_bool ?_
  | with_reducible refine r_isi_str_int ?_
  | with_reducible refine r_isi_str_str ?_
  | with_reducible refine r_isi_str_list ?_
  | with_reducible refine r_isi_str_tuple ?_
  | with_reducible refine r_isi_str_bool ?_
  | with_reducible refine r_isi_lst_int (SqL.of (by assumption)) ?_
  | with_reducible refine r_isi_lst_str (SqL.of (by assumption)) ?_
  | with_reducible refine r_isi_lst_list (SqL.of (by assumption)) ?_
  | with_reducible refine r_isi_lst_tuple (SqL.of (by assumption)) ?_
  | with_reducible refine r_isi_lst_bool (SqL.of (by assumption)) ?_
  | with_reducible refine r_isi_tup_int (SqT.of (by assumption)) ?_
  | with_reducible refine r_isi_tup_str (SqT.of (by assumption)) ?_
  | with_reducible refine r_isi_tup_list (SqT.of (by assumption)) ?_
  | with_reducible refine r_isi_tup_tuple (SqT.of (by assumption)) ?_
  | with_reducible refine r_isi_tup_bool (SqT.of (by assumption)) ?_))
local macro_rules | `(tactic| walk_at "rs") => `(tactic| (first
  | ((with_reducible refine iteTc ?hc ?_); (case hc => rfl)) | ((with_reducible refine iteFc ?hc ?_); (case hc => rfl))
  | walk_at "isi"
  | refine r_ixL (SqL.of (by assumption)) rfl ?_ | refine r_ixL (SqL.of upd_same) rfl ?_
  | refine r_I (C := fun _ j => 0 < j) (by first | decide | assumption | omega) ?_
  | refine r_mulI (.inl ⟨by decide, by decide⟩) ?_ | refine r_mulI (.inr ⟨by decide, by decide⟩) ?_ | refine r_mulI (.inr ⟨by omega, by omega⟩) ?_ | refine r_mulI (.inl ⟨by omega, by omega⟩) ?_
  | refine r_I (wide_div (b := 64) (by decide) (by decide) (by decide) (by decide)) ?_
  | refine r_I (C := CPow) ⟨by decide, by decide, by decide⟩ ?_
  | refine r_setL (by assumption) rfl ?_ | refine r_setL upd_same rfl ?_))
local macro_rules | `(tactic| walk_at "rx") => `(tactic| (walk_at "rd"; (repeat (walk_at "rs"; walk_at "rd"))))
local macro_rules | `(tactic| walk_at "rl") => `(tactic| repeat (first
  | with_reducible refine r_seq ?_ | with_reducible refine r_fld ?_ | with_reducible refine r_prop ?_ | with_reducible refine r_revT ?_ | with_reducible refine r_fldS ?_ | with_reducible refine r_meth ?_ | with_reducible refine r_methX ?_ | with_reducible refine r_make ?_ | with_reducible refine r_makeS ?_ | with_reducible refine r_makeKS ?_ | with_reducible refine r_dcA ?_ | with_reducible refine r_addOS ?_ | with_reducible refine r_dgetT ?_ | with_reducible refine r_dputT ?_ | with_reducible refine r_dget2T ?_ | with_reducible refine r_starT ?_ | with_reducible refine r_statT ?_ | with_reducible refine r_par3 ?_ | with_reducible refine r_callR ?_ | with_reducible refine r_callS ?_ | with_reducible refine r_mkO ?_ | with_reducible refine r_raise ?_ | with_reducible refine r_callW ?_ | with_reducible refine r_tru ?_ | with_reducible refine r_var rfl ?_ | with_reducible refine r_c ?_ | with_reducible refine r_op ?_ | with_reducible refine r_cons ?_ | with_reducible refine r_nil ?_
  | with_reducible refine r_cb ?_ | with_reducible refine r_call ?_ | with_reducible refine r_test ?_ | with_reducible refine r_B ?_ | with_reducible refine r_bl ?_ | with_reducible refine r_asg ?_ | with_reducible refine r_asgS ?_
  | with_reducible refine r_ret ?_ | with_reducible refine r_drop ?_ | with_reducible refine r_ifS ?_ | with_reducible refine r_if ?_ | with_reducible refine r_and ?_ | with_reducible refine r_or ?_ | with_reducible refine r_not ?_
  | with_reducible refine r_andV ?_ | with_reducible refine r_orV ?_ | with_reducible refine r_notV ?_ | with_reducible refine r_chain ?_ | with_reducible refine r_sl ?_ | with_reducible refine r_nopart ?_ | with_reducible refine r_part ?_ | with_reducible refine r_partN ?_ | with_reducible refine r_xv ?_ | with_reducible refine r_xo ?_ | with_reducible refine r_mkV ?_ | with_reducible refine r_forG ?_ | with_reducible refine r_listG ?_ | with_reducible refine r_methG ?_
  | with_reducible refine r_intO ?_ | with_reducible refine r_two ?_ | with_reducible refine r_m1 ?_ | with_reducible refine r_bm ?_ | with_reducible refine r_next ?_ | with_reducible refine r_gCons ?_ | with_reducible refine r_gNil ?_ | with_reducible refine r_asgT ?_ | with_reducible refine r_for ?_ | with_reducible refine r_rng1 ?_ | with_reducible refine r_iList ?_ | with_reducible refine r_iAny ?_ | with_reducible refine r_lc ?_ | with_reducible refine r_yes ?_ | with_reducible refine r_gN ?_ | with_reducible refine r_par ?_ | with_reducible refine r_un ?_ | with_reducible refine r_brk ?_ | with_reducible refine r_cont ?_
  | with_reducible refine r_I0 ?_ | with_reducible refine r_U ?_ | with_reducible refine r_addI ?_ | with_reducible refine r_abs ?_ | with_reducible refine r_intI ?_ | with_reducible refine r_max2 ?_ | with_reducible refine r_min2 ?_
  | with_reducible refine r_ltI ?_ | with_reducible refine r_leI ?_ | with_reducible refine r_gtI ?_ | with_reducible refine r_geI ?_ | with_reducible refine r_isN_non ?_ | with_reducible refine r_isN_int ?_ | with_reducible refine r_isN_str ?_ | with_reducible refine r_isN_bl ?_ | with_reducible refine r_isN_ref ?_ | with_reducible refine r_isN ?_ | with_reducible refine r_isB ?_ | with_reducible refine r_isnotN_non ?_ | with_reducible refine r_isnotN_int ?_ | with_reducible refine r_isnotN_str ?_ | with_reducible refine r_isnotN_bl ?_ | with_reducible refine r_isnotN_ref ?_ | with_reducible refine r_isnotN ?_ | with_reducible refine r_isnotB ?_
  | with_reducible refine r_inS ?_ | with_reducible refine r_eqS rfl ?_ | with_reducible refine r_neS rfl ?_ | with_reducible refine iteT ?_ | with_reducible refine iteF ?_))
local macro_rules | `(tactic| walk_at "bld") => `(tactic| repeat' (first
  | exact bldA_nil | refine bldA_cons ?_ ?_ | refine bld_tup ?_ | refine bld_lst ?_ | exact bld_str | exact bld_int | exact bld_non | exact bld_bl | refine bld_mul ?_ (mulOk_w (by decide) (by decide) (by decide +kernel)) | refine bld_add ?_ ?_ ?_))

/-! ### one entry replaced -/
theorem Paired.takeP {α β : Type} {R : α → β → Prop} : ∀ {xs : List α} {ys : List β} (n : Nat), Paired R xs ys → Paired R (xs.take n) (ys.take n)
  | _, _, n, .nil => by rw [List.take_nil, List.take_nil]; exact .nil
  | _, _, 0, .cons _ _ => .nil
  | _, _, n + 1, .cons h r => .cons h (Paired.takeP n r)
theorem Paired.dropP {α β : Type} {R : α → β → Prop} : ∀ {xs : List α} {ys : List β} (n : Nat), Paired R xs ys → Paired R (xs.drop n) (ys.drop n)
  | _, _, n, .nil => by rw [List.drop_nil, List.drop_nil]; exact .nil
  | _, _, 0, .cons h r => .cons h r
  | _, _, n + 1, .cons _ r => Paired.dropP n r
theorem Paired.appP {α β : Type} {R : α → β → Prop} : ∀ {xs us : List α} {ys vs : List β}, Paired R xs ys → Paired R us vs → Paired R (xs ++ us) (ys ++ vs)
  | _, _, _, _, .nil, h => h
  | _, _, _, _, .cons h r, g => .cons h (Paired.appP r g)
def swapE {α : Type} (ds : List α) (k : Nat) (d : α) : List α := ds.take k ++ [d] ++ ds.drop (k + 1)
theorem swapE_self {α : Type} {ds : List α} {k : Nat} {d : α} (h : ds[k]? = some d) : swapE ds k d = ds := by
  obtain ⟨lt, e⟩ := List.getElem?_eq_some_iff.mp h
  unfold swapE
  rw [List.append_assoc, List.singleton_append, ← e, ← List.drop_eq_getElem_cons lt, List.take_append_drop]
theorem swapE_map {α β : Type} (f : α → β) {ds : List α} {k : Nat} {d : α} : (swapE ds k d).map f = swapE (ds.map f) k (f d) := by
  unfold swapE
  rw [List.map_append, List.map_append, List.map_take, List.map_drop]
  rfl
theorem swapE_len {α : Type} {ds : List α} {k : Nat} {d : α} (h : k < ds.length) : (swapE ds k d).length = ds.length := by
  unfold swapE
  rw [List.length_append, List.length_append, List.length_take, List.length_drop, List.length_singleton, Nat.min_eq_left (by omega)]
  omega
theorem swap_fst {ps : PTab} {k : Nat} {t : List Str × PyData} {d : PyData} (h : ps[k]? = some t) : (swapE ps k (t.1, d)).map (·.1) = ps.map (·.1) := by
  rw [swapE_map]
  exact swapE_self (by rw [List.getElem?_map, h]; rfl)
theorem swap_mem {ps : PTab} {k : Nat} {t : List Str × PyData} : t ∈ swapE ps k t := by
  unfold swapE
  exact List.mem_append_left _ (List.mem_append_right _ (List.mem_cons_self ..))
theorem one_val {ps : PTab} {z : List Str} {a b : PyData} (nd : (ps.map (·.1)).Nodup) (ha : (z, a) ∈ ps) (hb : (z, b) ∈ ps) : a = b := by
  have h1 := tabV_of nd ha
  rw [tabV_of nd hb] at h1
  cases h1
  rfl
theorem tab_swap {ps tab tab' : PTab} {k : Nat} {t : List Str × PyData} {d : PyData} (nd : (ps.map (·.1)).Nodup) (hk : ps[k]? = some t) (h : TabOf ps tab) (h' : TabOf (swapE ps k (t.1, d)) tab') : tab = tab' ↔ d = t.2 := by
  have mt := List.mem_of_getElem? hk
  have nd' : ((swapE ps k (t.1, d)).map (·.1)).Nodup := by rw [swap_fst hk]; exact nd
  constructor
  · rintro rfl
    cases q : isNonD d with
    | false =>
      have m : (t.1, d) ∈ tab := h'.mem.mpr ⟨swap_mem, q⟩
      exact one_val nd (h.mem.mp m).1 mt
    | true =>
      cases q2 : isNonD t.2 with
      | true =>
        have e : ∀ {x : PyData}, isNonD x = true → x = .none := fun {x} hx => by cases x <;> first | rfl | cases hx
        rw [e q, e q2]
      | false =>
        have m : t ∈ tab := h.mem.mpr ⟨mt, q2⟩
        exact one_val nd' swap_mem (h'.mem.mp m).1
  · intro e
    subst e
    have : swapE ps k (t.1, t.2) = ps := swapE_self hk
    rw [this] at h'
    exact h.uniq h'
theorem cutV_drop {xs : List V} (i : Nat) : cutV xs (some (i : Int)) none = xs.drop i := by
  unfold cutV
  have e1 : HT.sIx xs.length 0 (some (i : Int)) = min i xs.length := HT.sIx_nat xs.length 0 i
  rw [e1, HT.sIx_none]
  by_cases h : i ≤ xs.length
  · rw [Nat.min_eq_left h, List.take_of_length_le (by rw [List.length_drop]; exact Nat.le_refl _)]
  · rw [Nat.min_eq_right (by omega), List.drop_length, List.take_nil, List.drop_of_length_le (by omega)]

abbrev N_law : List Str := ["_law_script", "_law_at", "_law_bag_here", "_law_aged", "_law_kit", "_law_due", "_law_handed", "_law_part", "_law_path_here", "_law_answer", "_law_k", "_law_other", "_law_changed"]
theorem sc_law : FnScope N_law ["_law_script"] (defScope s_law) := ⟨rfl, rfl, rfl, by decide +kernel, rfl, by decide +kernel, by decide +kernel⟩
def spLaw (K : PySem.W.Frag) : Sp := fun vs H Q _ => ∃ (a : Addr) (ns : List Int), vs = [.ref a] ∧ SqL K H a (ns.map V.int) ∧ ns.length ≤ 63 ∧ ∀ H', Q (.bl true) H'
theorem Paired.rev {α β : Type} {R : α → β → Prop} : ∀ {xs : List α} {ys : List β}, Paired R xs ys → Paired R xs.reverse ys.reverse
  | _, _, .nil => .nil
  | _, _, .cons h r => by
    rw [List.reverse_cons, List.reverse_cons]
    exact Paired.snocP h (Paired.rev r)
/-- what was fixed at H1 stands behind the bag, too -/
theorem imm_hidb {b : Addr} {H1 H2 H' : Hp} {l : List V} (hb : H1 b = some (.lst l)) (e : Evl.Ex (imm H1 H2) H') : Evl.Ex (imm H1 H2) (hid b H') := fun a o h => by
  refine hid_of (e _ _ h) fun q => ?_
  rcases imm_cases h with ⟨h1, _⟩ | ⟨h1, f⟩
  · rw [q, hb] at h1; cases h1
  · rw [q, hb] at h1; cases h1; cases f
theorem r_bm0 {K : PySem.W.Frag} {T : String} {rm : V → List V → Hp → VK → Prop} {to : TE} {σ : L2.St} {H : Hp} {Q : VK} (q : to σ H fun x H1 => tyV K T x H1 ∧ rm x [] H1 Q) : tBM0 K T rm to σ H Q := q
section
variable {P : Program} {w : World} {K : PySem.W.Frag} {mg : Str → Option Value} {base : Heap} {C BP T0 : Addr}
theorem c_law {f : Addr} {fd : FuncData} (F : FunD K "law" "law" (defArgs s_law) (defBody s_law) (defScope s_law) [] [] f fd) (B : Bl mg) (T : PartT K C) (CT : ClsT K C) (cl_Part : Cls K C) (hT0 : ∀ H, SqT K H T0 []) (c_law_bag : Cal P w K mg base 1 "_law_bag" (spBag K)) (c_law_take : Cal P w K mg base 1 "_law_take" spTake) (c_law_core : Cal P w K mg base 5 "_law_core" spCore) (c_law_some_texts : Cal P w K mg base 6 "_law_some_texts" spTexts) (c_law_drawn_pairs : Cal P w K mg base 5 "_law_drawn_pairs" (spPairs K 12)) (c_law_copy : Cal P w K mg base 1 "_law_copy" (spLCopy K))
    (c_law_any_answer : Cal P w K mg base 4 "_law_any_answer" (spAnyAns K)) (c_law_equal : CalT P w K mg base 1 "_law_equal" (spEqual K)) (c_law_is_right : CalT P w K mg base 5 "_law_is_right" (spIsRight K C)) (k_Part_1k1 : CalCK P w K mg base (L2.CX P w) 6 "Part" C (spPart K C BP) 1 ["ageing"]) (k_Part_0 : CalCD P w K mg base (L2.CX P w) 6 "Part" C (spPart K C BP) [.ref T0, .bl false])
    (c_Part_entries : CalP P w K mg base L2.CX0 2 C "entries" (spEntries K C)) (c_Part_eq : CalM P w K mg base L2.CX0 4 C "__eq__" (spPEq K C)) : FnG P w K mg base L2.CX0 9 f fd ["_law_script"] (spLaw K) := by
  refine fnokG_of F sc_law (fun vs H Q E h => ?_) (fun cdv A outer s H vs Q E hgd hr h => ?_)
  · obtain ⟨a, ns, rfl, _⟩ := h
    rfl
  · obtain ⟨a, ns, rfl, hs, hns, k⟩ := h
    refine ⟨_, (pss_cons (ps_for PassesOwn.never rfl (pi_range1 rfl B.range (pa_cons (pe_callB (call_max2A rfl) rfl B.max (by decide +kernel) (pa_cons pe_int (pa_cons (pe_callB (call_min2A rfl) rfl B.min (by decide +kernel) (pa_cons pe_int (pa_cons (pe_callB (call_lenA K) rfl B.len (by decide +kernel) (pa_cons (pv 0) pa_nil)) pa_nil))) pa_nil))) pa_nil)) (pg_name (i := 1) sc_law.nd rfl (Or.inl rfl))
   (pss_cons (ps_set (i := 2) sc_law.nd rfl (Or.inl rfl) (pe_cA c_law_bag hr (by omega) rfl (pa_cons (pv 0) (pa_cons (pv 1) pa_nil))))
  (pss_cons (ps_set (i := 3) sc_law.nd rfl (Or.inl rfl) (pe_cmpR (op_eqA K hr.units) (pe_cA c_law_take hr (by omega) rfl (pa_cons (pv 2) (pa_cons pe_int pa_nil))) pe_int (nomark _)))
  (pss_cons (ps_set (i := 4) sc_law.nd rfl (Or.inl rfl) (pe_cA c_law_core hr (by omega) rfl (pa_cons (pv 2) (pa_cons pe_int (pa_cons pe_int (pa_cons pe_int pa_nil))))))
  (pss_cons (ps_set (i := 5) sc_law.nd rfl (Or.inl rfl) (pe_cA c_law_drawn_pairs hr (by omega) rfl (pa_cons (pv 2) (pa_cons (pv 4) (pa_cons (pe_cA c_law_some_texts hr (by omega) rfl (pa_cons (pv 2) (pa_cons pe_int pa_nil))) (pa_cons (pv 3) (pa_cons pe_int pa_nil)))))))
  (pss_cons (ps_set (i := 6) sc_law.nd rfl (Or.inl rfl) (pe_cA c_law_copy hr (by omega) rfl (pa_cons (pv 5) pa_nil)))
  (pss_cons (ps_set (i := 7) sc_law.nd rfl (Or.inl rfl) (pe_mkKS k_Part_1k1 hr (by omega) rfl takes00 (pa_cons (pv 6) pa_nil) (pk_cons (pv 3) pk_nil)))
  (pss_cons (ps_for PassesOwn.never rfl (pi_any K (pv 6)) (pg_tupA K (n := 2) (pg_tup rfl (pgs_cons (pg_name (i := 8) sc_law.nd rfl (Or.inl rfl)) (pgs_cons (pg_name (i := 9) sc_law.nd rfl (Or.inl rfl)) pgs_nil))))
   (pss_one (ps_if (pt_val (pe_callB (call_isinstanceA K) rfl B.isinstance (by decide +kernel) (pa_cons (pv 9) (pa_cons (pe_bltn (v := .ty "list") rfl B.list (by decide +kernel) rfl) pa_nil))))
   (pss_one (ps_expr (pe_appendA K (pe_bm PySem.F.plainAttrs_list PySem.F.slot_list_append PySem.F.type_list_append mt_append (pv 9) (pa_cons pe_int pa_nil)))))
   pss_nil)))
  (pss_cons (ps_expr (pe_bm0 PySem.F.plainAttrs_list PySem.F.slot_list_clear PySem.F.type_list_clear mt_clear (pv 6)))
  (pss_cons (ps_if (pt_not (pt_val (pe_cT c_law_is_right hgd hr (by omega) rfl (pa_cons (pv 7) (pa_cons (pv 5) (pa_cons (pv 3) pa_nil))))))
   (pss_one (ps_ret pe_bl))
   pss_nil)
  (pss_cons (ps_if (PW.pt (pw_or (pt_not (pt_cmpR (op_eqO K c_Part_eq hr (by omega) L2.pass0) (pv 7) (pe_mkKS k_Part_1k1 hr (by omega) rfl takes00 (pa_cons (pe_callTy (call_tupleA K) rfl B.tuple (by decide +kernel) (pa_cons (pe_revA K (pe_revL (pe_cA c_law_copy hr (by omega) rfl (pa_cons (pv 5) pa_nil)))) pa_nil)) pa_nil) (pk_cons (pv 3) pk_nil)) (nomark _))) (pw_or1 (pt_cmpR (op_eqO K c_Part_eq hr (by omega) L2.pass0) (pv 7) (pe_cP c_Part_entries hr (by omega) cl_Part L2.pass0 (pv 7)) (nomark _)))))
   (pss_one (ps_ret pe_bl))
   pss_nil)
  (pss_cons (ps_if (pt_cmpR (op_eqA K hr.units) (pe_lc (own := [("_law_path_here", 8), ("_law_answer", 9)]) rfl sc_law.nd (pi_any K (pv 5)) (blkOk_by (N := N_law) (sc := defScope s_law) (by decide +kernel)) (fun _ _ _ _ _ => (pg_tupA K (n := 2) (pg_tup rfl (pgs_cons (pg_name (i := 8) sc_law.nd rfl (Or.inl rfl)) (pgs_cons (pg_name (i := 9) sc_law.nd rfl (Or.inl rfl)) pgs_nil))))) (fun _ _ _ _ _ => pts_one (pt_cmpR op_gtA (pe_callB (call_lenA K) rfl B.len (by decide +kernel) (pa_cons (pv 8) pa_nil)) pe_int (nomark _))) (fun _ _ _ _ _ => (pv 8))) (pe_lst pa_nil) (nomark _))
   (pss_one (ps_if (pt_cmpR (op_eqO K c_Part_eq hr (by omega) L2.pass0) (pv 7) (pe_mkKS k_Part_1k1 hr (by omega) rfl takes00 (pa_cons (pe_cA c_law_copy hr (by omega) rfl (pa_cons (pv 5) pa_nil)) pa_nil) (pk_cons (pe_not (pv 3)) pk_nil)) (nomark _))
   (pss_one (ps_ret pe_bl))
   pss_nil))
   pss_nil)
  (pss_cons (ps_for PassesOwn.never rfl (pi_range1 rfl B.range (pa_cons (pe_callB (call_lenA K) rfl B.len (by decide +kernel) (pa_cons (pv 5) pa_nil)) pa_nil)) (pg_name (i := 10) sc_law.nd rfl (Or.inl rfl))
   (pss_cons (ps_set (i := 11) sc_law.nd rfl (Or.inl rfl) (pe_cA c_law_any_answer hr (by omega) rfl (pa_cons (pv 2) (pa_cons (pv 4) pa_nil))))
  (pss_cons (ps_set (i := 12) sc_law.nd rfl (Or.inl rfl) (pe_op (op_addA K) (pe_op (op_addA K) (pe_slice (sl_A K) (pv 5) po_none (po_some (pv 10))) (pe_lst (pa_cons (pe_tup (pa_cons (pe_ix (ix_A K) (pe_ix (ix_A K) (pv 5) (pv 10) (fun _ _ => rfl)) pe_int (fun _ _ => rfl)) (pa_cons (pv 11) pa_nil))) pa_nil))) (pe_slice (sl_A K) (pv 5) (po_some (pe_op (op_addA K) (pv 10) pe_int)) po_none)))
  (pss_one (ps_if (pt_cmpR (op_neA K hr.units) (pe_cmpR (op_eqO K c_Part_eq hr (by omega) L2.pass0) (pv 7) (pe_mkKS k_Part_1k1 hr (by omega) rfl takes00 (pa_cons (pe_cA c_law_copy hr (by omega) rfl (pa_cons (pv 12) pa_nil)) pa_nil) (pk_cons (pv 3) pk_nil)) (nomark _)) (pe_cT c_law_equal hgd hr (by omega) rfl (pa_cons (pv 11) (pa_cons (pe_ix (ix_A K) (pe_ix (ix_A K) (pv 5) (pv 10) (fun _ _ => rfl)) pe_int (fun _ _ => rfl)) pa_nil))) (nomark _))
   (pss_one (ps_ret pe_bl))
   pss_nil)))))
  (pss_one (ps_if (PW.pt (pw_or (pt_cmpR (op_neA K hr.units) (pe_cP c_Part_entries hr (by omega) cl_Part L2.pass0 (pe_mkD0 k_Part_0 hr (by omega) rfl passF)) (pe_tup pa_nil) (nomark _)) (pw_or (pt_cmpR op_isnotA (pe_fldA K (pe_mkD0 k_Part_0 hr (by omega) rfl passF)) pe_bl (nomark _)) (pw_or1 (pt_not (pt_val (pe_cT c_law_is_right hgd hr (by omega) rfl (pa_cons (pv 7) (pa_cons (pv 5) (pa_cons (pv 3) pa_nil))))))))))
   (pss_one (ps_ret pe_bl))
   pss_nil)))))))))))))))
  (pss_one (ps_ret pe_bl))), ?_⟩
    walk_at "rd"
    refine r_lenL hs ?_
    walk_at "rd"
    rw [List.length_map]
    generalize hN : (if (if (ns.length : Int) < 20 then (ns.length : Int) else 20) > 1 then (if (ns.length : Int) < 20 then (ns.length : Int) else 20) else 1) = N
    have hN1 : N ≤ 63 := by rw [← hN]; split <;> split <;> omega
    have hN0 : 0 ≤ N := by rw [← hN]; split <;> split <;> omega
    refine ⟨_, rfl, by omega, by omega, for_range (lo := 0) (n := N.toNat) (fun i σ H' => (∃ w1 w2 w3 w4 w5 w6 w7 w8 w9 w10 w11 w12 : Option V, σ = [some (.ref a), w1, w2, w3, w4, w5, w6, w7, w8, w9, w10, w11, w12]) ∧ Evl.Ex H H') ?_ ?_ ?_⟩
    · exact ⟨⟨_, _, _, _, _, _, _, _, _, _, _, _, rfl⟩, Evl.Ex.refl _⟩
    · rintro i σ H0 hi ⟨⟨w1, w2, w3, w4, w5, w6, w7, w8, w9, w10, w11, w12, rfl⟩, e0⟩
      walk_at "rd"
      refine ⟨a, ns, i, by rw [Int.zero_add]; rfl, Evl.ex_l e0 hs, by omega, hns, fun b l hb hl => ?_⟩
      have eb : hid b (upd H0 b (.lst l)) = H0 := hid_start hb
      generalize hH1 : upd H0 b (.lst l) = H1 at eb
      have b1 : Bag b 0 H1 := ⟨l, by rw [← hH1]; exact upd_same, hl⟩
      clear hH1
      walk_at "rd"
      refine ⟨b, _, 0, rfl, b1, by omega, by decide, by decide, fun t H2 ht0 ht1 r2 => ?_⟩
      walk_at "rd"
      generalize decide (V.int t = V.int 1) = ag
      refine ⟨b, _, rfl, r2.bag, by omega, fun D H3 hK r3 => ?_⟩
      replace r3 := r2.trans r3
      walk_at "rd"
      refine ⟨b, _, rfl, r3.bag, by omega, fun Lt ts H4 hT hl0 hl4 hts r4 => ?_⟩
      replace hK := hK.mono r4.ex
      replace r4 := r3.trans r4
      walk_at "rd"
      refine ⟨b, D, Lt, _, ts, ag, rfl, r4.bag, by omega, hK, hT, hl0, by omega, hts, fun L xs ps H5 hL hR hxl r5 => ?_⟩
      replace hK := hK.mono r5.ex
      replace r5 := r4.trans r5
      have hlen := Paired.len hR.at_
      have few := hR.few
      clear r2 r3 r4
      walk_at "rd"
      refine ⟨L, xs, ps, ag, rfl, SqL.of (hid_get hL), hR.mono hid_ex, fun M ys H6 e6 hM0 hM6 hC => ?_⟩
      walk_at "rd"
      refine ⟨rfl, rfl, mk_part (G := imm H5 H6) (imm_ex e6) (.inl (SqL.of hM6)) (Paired.monoP (fun _ _ q => (q.mono hid_ex).row) hC) hR.nd (by omega) fun x tab H7 e7 hP7 hT7 => ?_⟩
      obtain ⟨lb, hb5, hbl5⟩ := id r5.bag
      have hb6 := e6 _ _ hb5
      have hyl := Paired.len hC
      walk_at "rd"
      refine .inl ⟨M, rfl, ⟨_, SqL.of (e7 _ _ hM6)⟩, for_list (K := K) (a := M) (xs := ys) (fun j σ H' => (∃ w8 w9 w10 w11 w12 : Option V, σ = [some (.ref a), some (.int (0 + (i : Nat))), some (.ref b), some (.bl ag), some (.ref D), some (.ref L), some (.ref M), some (.ref x), w8, w9, w10, w11, w12]) ∧ H' M = some (.lst ys) ∧ Drw b (0 + 1 + 1000 + 800 + 6000) H5 H' ∧ Evl.Ex (imm H6 H7) H' ∧ ∀ l vs, H6 l = some (.lst vs) → l ≠ M → l ≠ b → vs.length ≤ 100 → ∃ vs', H' l = some (.lst vs') ∧ vs'.length ≤ 100 + j) ?_ ?_ ?_ ?_⟩
      · exact ⟨⟨_, _, _, _, _, rfl⟩, e7 _ _ hM6, r5.bag.ex (e6.trans e7), imm_ex e7, fun l vs h1 _ _ h4 => ⟨vs, e7 _ _ h1, h4⟩⟩
      · rintro j σ H' _ ⟨_, h, _⟩
        exact SqL.of h
      · rintro j v σ H8 hv ⟨⟨w8, w9, w10, w11, w12, rfl⟩, hM8, r8, e8, hls⟩
        have hj := (List.getElem?_eq_some_iff.mp hv).1
        obtain ⟨t, ht, e, p, va, rfl, he0, he, hp, hva, hok, hcase⟩ : ∃ t, ps[j]? = some t ∧ CpV K H5 (hid M H6) ag v t := pairedGet hC hv
        have he8 : H8 e = some (.tup [.ref p, va]) := e8 _ _ (imm_old (hid_get he) rfl)
        refine r_gTup (SqT.of he8) rfl ?_
        walk_at "rd"
        rcases hcase with hnl | ⟨l, us, rfl, hl5, hl6, hus⟩
        · have hd8 : Dp K H8 va t.2 := Dp.mono e8 (ans_imm (Dp.mono (imm_ex (e6.trans (Evl.Ex.refl _))) (Dp.mono (imm_mono hid_ex) hva.1)) hva.2.2.1 hnl)
          refine r_isiD_list hd8 ?_
          have : isListD t.2 = false := by
            cases q : t.2 with
            | list ds => exact absurd q (hnl ds)
            | _ => rfl
          rw [this]
          walk_at "rd"
          exact ⟨⟨_, _, _, _, _, rfl⟩, hM8, r8, e8, fun l vs h1 h2 h3 h4 => let ⟨vs', g1, g2⟩ := hls l vs h1 h2 h3 h4; ⟨vs', g1, by omega⟩⟩
        · have nlM : l ≠ M := hid_ne hl6
          have nlb : l ≠ b := fun q => by rw [q, hb5] at hl5; cases hl5
          obtain ⟨vs', g1, g2⟩ := hls l us (hid_get hl6) nlM nlb hus
          refine r_isi_lst_list (SqL.of g1) ?_
          walk_at "rd"
          refine r_tyL (SqL.of g1) ?_
          walk_at "rd"
          refine r_app g1 (by rw [sizeLine_eq]; omega) ?_
          refine ⟨⟨_, _, _, _, _, rfl⟩, by rw [upd_ne nlM.symm]; exact hM8, Drw.put r8 (hid_none hl5) nlb, fun c o hc => ?_, fun m vs h1 h2 h3 h4 => ?_⟩
          · rw [upd_ne fun q => ?_]
            · exact e8 _ _ hc
            · rcases imm_cases hc with ⟨h1, _⟩ | ⟨h1, h2⟩
              · rw [q, hid_get hl6] at h1; cases h1
              · rw [q, hid_get hl6] at h1; cases h1; cases h2
          · by_cases q : m = l
            · subst q
              exact ⟨_, upd_same, by rw [List.length_append, List.length_singleton]; omega⟩
            · obtain ⟨vs2, k1, k2⟩ := hls m vs h1 h2 h3 h4
              exact ⟨vs2, by rw [upd_ne q]; exact k1, by omega⟩
      · rintro σ H8 ⟨⟨w8, w9, w10, w11, w12, rfl⟩, hM8, r8, e8, -⟩
        walk_at "rd"
        refine r_bm0 (r_var rfl ⟨.inl ⟨rfl, _, SqL.of hM8⟩, M, ys, rfl, rfl, hM8, ?_⟩)
        have nMb : M ≠ b := fun q => by rw [q, hb5] at hM0; cases hM0
        have r9 : Drw b (0 + 1 + 1000 + 800 + 6000) H5 (upd H8 M (.lst [])) := Drw.put r8 (hid_none hM0) nMb
        have e9 : Evl.Ex (imm H6 H7) (upd H8 M (.lst [])) := fun c o hc => by
          rw [upd_ne fun q => ?_]
          · exact e8 _ _ hc
          · rcases imm_cases hc with ⟨h1, _⟩ | ⟨h1, h2⟩
            · rw [q, hM6] at h1; cases h1
            · rw [q, hM6] at h1; cases h1; cases h2
        generalize upd H8 M (HO.lst []) = H9 at r9 e9 ⊢
        replace hP7 := hP7.mono (imm_hidb hb6 e9)
        replace hK := hK.mono r9.ex
        replace hL := r9.ex _ _ hL
        replace hR := hR.mono r9.ex
        replace r9 := r5.trans r9
        generalize hn9 : 0 + 1 + 1000 + 800 + 6000 = n9 at r9 hbl5 r5
        clear e8 e9 r8 hM8 hC hyl e6 e7 hM6 hb6 hb5
        walk_at "rd"
        refine ⟨x, L, xs, ps, tab, ag, hid b H9, rfl, hid_ex, SqL.of (hid_get hL), hR, hT7, hP7.mono hid_ex, fun H10 e10 => ?_⟩
        have r10 := r9.bag.ex e10
        replace hP7 := hP7.mono r10.ex
        replace hK := hK.mono r10.ex
        replace hL := r10.ex _ _ hL
        replace hR := hR.mono r10.ex
        replace r10 := r9.trans r10
        refine ⟨_, rfl, ?_⟩
        refine iteFc rfl ?_
        walk_at "rd"
        obtain ⟨⟨dx, Tb, kvs, hx, hTb, hkv⟩, -, okT, -⟩ := id hP7
        refine ⟨L, xs, ps, ag, rfl, SqL.of (hid_get hL), hR.mono hid_ex, fun M2 y2 H11 e11 hM20 hM2 hC2 => ?_⟩
        refine ⟨M2, y2, rfl, SqL.of hM2, fun p2 hp2 => ?_⟩
        walk_at "rd"
        refine ⟨p2, _, rfl, .inl ⟨SqL.of upd_same, fun q2 hq2 => ?_⟩⟩
        have e12 : Evl.Ex H11 (upd (upd H11 p2 (.lst y2.reverse)) q2 (.tup y2.reverse)) := (Evl.Ex.new hp2).trans (Evl.Ex.new hq2)
        have hq2v : upd (upd H11 p2 (.lst y2.reverse)) q2 (.tup y2.reverse) q2 = some (.tup y2.reverse) := upd_same
        generalize upd (upd H11 p2 (HO.lst y2.reverse)) q2 (HO.tup y2.reverse) = H12 at e12 hq2v ⊢
        walk_at "rd"
        refine ⟨rfl, rfl, mk_part (G := imm H10 H11) ((imm_ex e11).trans e12) (.inr (SqT.of hq2v)) (Paired.rev (Paired.monoP (fun _ _ q => (q.mono hid_ex).row) hC2)) (by rw [List.map_reverse]; exact (List.reverse_perm _).nodup_iff.mpr hR.nd) (by rw [List.length_reverse]; omega) fun x2 tab2 H13 e13 hP13 hT13 => ?_⟩
        obtain rfl := (hT13.permute (List.reverse_perm _)).uniq hT7
        have e1013 := (e11.trans e12).trans e13
        have hP13' := hP13.mono (imm_ex e13)
        obtain ⟨⟨dx2, Tb2, kvs2, hx2, -, -⟩, -, -, -⟩ := id hP13'
        refine ⟨x, dx, _, .ref C, rfl, e1013 _ _ (hid_get hx), CT.ty T.cl hx2, ClsT.nfo, x, ag, tab2, .ref x2, rfl, (hP7.mono hid_ex).mono e1013, .inr ⟨x2, ag, tab2, rfl, hP13', fun rr H14 e14 hrr => ⟨rr, rfl, ?_⟩⟩⟩
        rw [hrr.mpr ⟨rfl, rfl⟩]
        have e1014 := e1013.trans e14
        walk_at "rd"
        refine iteFc rfl ?_
        walk_at "rd"
        refine ⟨x, dx, _, rfl, e1014 _ _ (hid_get hx), x, ag, tab2, rfl, (hP7.mono hid_ex).mono e1014, fun v15 H15 e15 hv15 => ?_⟩
        have e1015 := e1014.trans e15
        have hv15' := Dp.mono (imm_ex e15) hv15
        obtain ⟨t15, ht15, ty15⟩ := dp_ty hv15'
        refine ⟨x, dx, _, _, rfl, e1015 _ _ (hid_get hx), ty15, (CT.bt t15 ht15).2, x, ag, tab2, v15, rfl, (hP7.mono hid_ex).mono e1015, .inl ⟨_, hv15', fun H16 e16 => ⟨false, rfl, ?_⟩⟩⟩
        have r16 := r10.bag.ex (e1015.trans e16)
        replace hP7 := hP7.mono r16.ex
        replace hK := hK.mono r16.ex
        replace hL := r16.ex _ _ hL
        replace hR := hR.mono r16.ex
        replace hx := r16.ex _ _ hx
        replace r16 := r10.trans r16
        clear e16 hv15' hv15 e1015 e1014 e1013 hP13' hP13 e15 e14 e13 hx2 hq2v e12 hC2 hM2 e11 ty15
        walk_at "rd"
        refine iteFc rfl ?_
        walk_at "rd"
        refine .inl ⟨L, rfl, ⟨_, SqL.of (hid_get hL)⟩, fun N1 hN1 => ?_⟩
        refine lc_fm hN1 (SqL.of (hid_get hL)) (by omega) (fun v => decide (1 < plen (hid b H16) v)) (fstV (hid b H16)) ?_ ?_
        · intro j v hv H' e' hne Q' R q1 q2
          obtain ⟨t, ht, e, p', va, rfl, he, hp', hva, hok'⟩ := rowAt hR.at_ hv
          rw [plen_of he hp', fstV_of he] at q1
          rw [plen_of he hp'] at q2
          refine r_gTup (SqT.of (e' _ _ (hid_get he))) rfl ?_
          walk_at "rd"
          refine ⟨rfl, ?_⟩
          walk_at "rd"
          refine r_lenT (SqT.of (e' _ _ (hid_get hp'))) ?_
          walk_at "rd"
          refine iteD (fun h => ?_) (fun h => ?_)
          · walk_at "rd"
            exact q1 (decide_eq_true (by omega)) _ (Evl.Ex.refl _)
          · exact q2 (decide_eq_false (by omega)) _ (Evl.Ex.refl _)
        · intro H17 e17 hN17
          walk_at "rd"
          refine ⟨by show 0 ≤ sizeLine; decide, fun N2 hN2 => ?_⟩
          have e18 : Evl.Ex H17 (upd H17 N2 (.lst [])) := Evl.Ex.new hN2
          have hN2v : upd H17 N2 (.lst []) N2 = some (.lst []) := upd_same
          have hN18 := e18 _ _ hN17
          generalize upd H17 N2 (HO.lst []) = H18 at e18 hN2v hN18 ⊢
          have r18 := r16.bag.ex (e17.trans e18)
          have hfl := List.length_filter_le (fun v => decide (1 < plen (hid b H16) v)) xs
          obtain ⟨ds, d1, d2, d3⟩ := dvAll (K := K) (H := H18) (m := 1) (xs := (xs.filter fun v => decide (1 < plen (hid b H16) v)).map (fstV (hid b H16))) fun v hv => by
            obtain ⟨y, hy, rfl⟩ := List.mem_map.mp hv
            obtain ⟨j, hj⟩ := List.mem_iff_getElem?.mp (List.mem_filter.mp hy).1
            obtain ⟨t, ht, e, p', va, rfl, he, hp', hva, hok'⟩ := rowAt hR.at_ hj
            rw [fstV_of he]
            exact (hok'.dv hp').mono (hid_ex.trans (e17.trans e18)) (Nat.le_refl _)
          have hdl := DpAll.length d1
          rw [List.length_map] at hdl
          have hsh : SeqAt.shaped (.list ds) = true := by
            unfold SeqAt.shaped
            rw [fit_lay (by rw [fit, d2, Bool.and_true]; exact decide_eq_true (by omega)), Bool.true_and, PyData.depth]
            exact decide_eq_true (by omega)
          refine r_eqD (d := .list ds) (e := .list []) (.lst (SqL.of hN18) d1) (.lst (SqL.of hN2v) .nil) hsh (by decide) ?_
          refine ⟨_, rfl, ?_⟩
          replace hP7 := hP7.mono r18.ex
          replace hK := hK.mono r18.ex
          replace hL := r18.ex _ _ hL
          have hR16 := hR
          replace hR := hR.mono r18.ex
          replace hx := r18.ex _ _ hx
          replace r18 := r16.trans r18
          refine iteB_cut (fun σ' H' => (∃ u8 u9 : Option V, σ' = [some (.ref a), some (.int (0 + (i : Nat))), some (.ref b), some (.bl ag), some (.ref D), some (.ref L), some (.ref M), some (.ref x), u8, u9, w10, w11, w12]) ∧ Drw b n9 H18 H') (fun hc D' kD => ?_) (fun hc D' kD => ?_) ?_
          · -- all paths are of one call: a part of the other kind is made
            have nil : xs.filter (fun v => decide (1 < plen (hid b H16) v)) = [] := by
              cases ds with
              | nil => exact List.eq_nil_of_length_eq_zero (by omega)
              | cons d ds => rw [PyData.eqv, PyData.eqvAll] at hc; cases hc
            have short : ∀ t ∈ ps, t.1.length = 1 := fun t ht => by
              obtain ⟨v, hv, e, p', va, rfl, he, hp', hva, hok'⟩ := rowOf hR16.at_ ht
              have := List.filter_eq_nil_iff.mp nil _ hv
              rw [plen_of he hp', List.length_map] at this
              have h0 := List.length_pos_iff.mpr hok'.1
              have : ¬ 1 < t.1.length := fun q => this (decide_eq_true q)
              omega
            walk_at "rd"
            refine ⟨L, xs, ps, ag, rfl, SqL.of (hid_get hL), hR.mono hid_ex, fun M3 y3 H19 e19 hM30 hM3 hC3 => ?_⟩
            walk_at "rd"
            have hP19 : Paired (RowV K (imm H18 H19) (!ag)) y3 ps := by
              refine paired_of_get (Paired.len hC3) fun j v hv => ?_
              obtain ⟨t, ht, hc⟩ := pairedGet hC3 hv
              obtain ⟨e, p', va, h1, h2, h3, h4, h5⟩ := (hc.mono hid_ex).row
              exact ⟨t, ht, e, p', va, h1, h2, h3, h4, h5.1, h5.2.1, fun _ => short t (List.mem_of_getElem? ht), h5.2.2.2⟩
            refine ⟨rfl, rfl, mk_part (G := imm H18 H19) (imm_ex e19) (.inl (SqL.of hM3)) hP19 hR.nd (by omega) fun x3 tab3 H20 e20 hP20 hT20 => ?_⟩
            have e1820 := e19.trans e20
            have hP20' := hP20.mono (imm_ex e20)
            obtain ⟨⟨dx3, Tb3, kvs3, hx3, -, -⟩, -, -, -⟩ := id hP20'
            refine ⟨x, dx, _, .ref C, rfl, e1820 _ _ (hid_get hx), CT.ty T.cl hx3, ClsT.nfo, x, ag, tab2, .ref x3, rfl, (hP7.mono hid_ex).mono e1820, .inr ⟨x3, !ag, tab3, rfl, hP20', fun rr H21 e21 hrr => ⟨rr, rfl, ?_⟩⟩⟩
            have rf : rr = false := by
              cases rr with
              | false => rfl
              | true => have := (hrr.mp rfl).1; cases ag <;> cases this
            subst rf
            walk_at "rd"
            refine iteFc rfl ?_
            walk_at "rd"
            exact kD _ _ ⟨⟨_, _, rfl⟩, r18.bag.ex (e1820.trans e21)⟩
          · walk_at "rd"
            exact kD _ _ ⟨⟨_, _, rfl⟩, r18.bag.refl⟩
          · rintro σ' H19 ⟨⟨u8, u9, rfl⟩, r19⟩
            replace hP7 := hP7.mono r19.ex
            replace hK := hK.mono r19.ex
            replace hL := r19.ex _ _ hL
            replace hR := hR.mono r19.ex
            replace hx := r19.ex _ _ hx
            replace r19 := r18.trans r19
            clear hR16 r18 hsh hdl d1 d2 d3 hfl hN18 hN2v e18 e17 hN17
            walk_at "rd"
            refine r_lenL (SqL.of (hid_get hL)) ?_
            walk_at "rd"
            refine ⟨_, rfl, by omega, by omega, for_range (lo := 0) (n := ((xs.length : Nat) : Int).toNat) (fun j σ H' => (∃ u8 u9 u10 u11 u12 : Option V, σ = [some (.ref a), some (.int (0 + (i : Nat))), some (.ref b), some (.bl ag), some (.ref D), some (.ref L), some (.ref M), some (.ref x), u8, u9, u10, u11, u12]) ∧ Drw b (n9 + 300 * j) H19 H') ?_ ?_ ?_⟩
            · exact ⟨⟨_, _, _, _, _, rfl⟩, r19.bag.refl⟩
            · rintro j σ H20 hj ⟨⟨v8, v9, v10, v11, v12, rfl⟩, r20⟩
              walk_at "rd"
              refine ⟨b, D, _, rfl, r20.bag, by omega, hK.mono r20.ex, fun va H21 hva r21 => ?_⟩
              obtain ⟨d, hvd⟩ : ∃ d, AnsD K (nov H20 H21) va d := let ⟨d, q⟩ := hva; ⟨d, q⟩
              replace hvd := hvd.mono (nov_hidb (b := b) r20.bag.some)
              replace r21 := r20.trans r21
              have hL21 := r21.ex _ _ hL
              have hR21 := hR.mono r21.ex
              have hP21 := hP7.mono r21.ex
              have hx21 := r21.ex _ _ hx
              obtain ⟨v, hv⟩ : ∃ v, xs[j]? = some v := ⟨_, List.getElem?_eq_getElem (by omega)⟩
              obtain ⟨t, ht, e, p', va0, rfl, he, hp', hva0, hok⟩ := rowAt hR21.at_ hv
              walk_at "rd"
              rw [Int.zero_add]
              refine r_slL (SqL.of (hid_get hL21)) fun p1 hp1 => ?_
              rw [cutV_take]
              obtain ⟨ra, hpa⟩ := r21.bag.new (o := .lst (xs.take j)) hp1
              replace hL21 := ra.ex _ _ hL21
              replace hvd := hvd.mono ra.ex
              replace he := ra.ex _ _ he
              replace ra := r21.trans ra
              generalize upd H21 p1 (HO.lst (xs.take j)) = Ha at ra hpa hL21 he hvd ⊢
              walk_at "rd"
              refine r_ixL (SqL.of (hid_get hL21)) (atI_nat hv) ?_
              walk_at "rd"
              refine r_ixT (SqT.of (hid_get he)) (atI_nat (j := 0) rfl) ?_
              walk_at "rd"
              refine ⟨by show 2 ≤ sizeLine; decide, fun q hq => ?_⟩
              obtain ⟨rb, hqb⟩ := ra.bag.new (o := .tup [.ref p', va]) hq
              replace hL21 := rb.ex _ _ hL21
              replace hvd := hvd.mono rb.ex
              replace he := rb.ex _ _ he
              replace hpa := rb.ex _ _ hpa
              replace rb := ra.trans rb
              generalize upd Ha q (HO.tup [.ref p', va]) = Hb at rb hqb hpa hL21 he hvd ⊢
              refine ⟨by show 1 ≤ sizeLine; decide, fun p2 hp2 => ?_⟩
              obtain ⟨rc, hpc⟩ := rb.bag.new (o := .lst [.ref q]) hp2
              replace hL21 := rc.ex _ _ hL21
              replace hvd := hvd.mono rc.ex
              replace he := rc.ex _ _ he
              replace hpa := rc.ex _ _ hpa
              replace hqb := rc.ex _ _ hqb
              replace rc := rb.trans rc
              generalize upd Hb p2 (HO.lst [.ref q]) = Hc at rc hqb hpa hpc hL21 he hvd ⊢
              refine r_addL (hid_get hpa) (hid_get hpc) (by rw [List.length_take, sizeLine_eq]; show _ + 1 ≤ _; omega) fun p3 hp3 => ?_
              obtain ⟨rd, hpd⟩ := rc.bag.new (o := .lst (xs.take j ++ [.ref q])) hp3
              replace hL21 := rd.ex _ _ hL21
              replace hvd := hvd.mono rd.ex
              replace he := rd.ex _ _ he
              replace hqb := rd.ex _ _ hqb
              replace rd := rc.trans rd
              generalize upd Hc p3 (HO.lst (xs.take j ++ [.ref q])) = Hd at rd hqb hpd hL21 he hvd ⊢
              walk_at "rd"
              refine r_slL (SqL.of (hid_get hL21)) fun p4 hp4 => ?_
              rw [show ((j : Nat) : Int) + 1 = ((j + 1 : Nat) : Int) by omega, cutV_drop]
              obtain ⟨re, hpe⟩ := rd.bag.new (o := .lst (xs.drop (j + 1))) hp4
              replace hL21 := re.ex _ _ hL21
              replace hvd := hvd.mono re.ex
              replace he := re.ex _ _ he
              replace hpd := re.ex _ _ hpd
              replace hqb := re.ex _ _ hqb
              replace re := rd.trans re
              generalize upd Hd p4 (HO.lst (xs.drop (j + 1))) = He at re hqb hpd hpe hL21 he hvd ⊢
              refine r_addL (hid_get hpd) (hid_get hpe) (by rw [List.length_append, List.length_take, List.length_drop, sizeLine_eq]; show _ + 1 + _ ≤ _; omega) fun p5 hp5 => ?_
              obtain ⟨rf, hpf⟩ := re.bag.new (o := .lst (swapE xs j (.ref q))) hp5
              replace hL21 := rf.ex _ _ hL21
              replace hvd := hvd.mono rf.ex
              replace he := rf.ex _ _ he
              replace hqb := rf.ex _ _ hqb
              have rf21 := rf
              replace rf := re.trans rf
              have ew : xs.take j ++ [.ref q] ++ xs.drop (j + 1) = swapE xs j (.ref q) := rfl
              rw [ew]
              generalize upd He p5 (HO.lst (swapE xs j (.ref q))) = Hf at rf rf21 hqb hpf hL21 hvd he ⊢
              have hRf := hR.mono rf.ex
              have hPf := hP7.mono rf.ex
              have hxf := rf.ex _ _ hx
              have hlt : j < xs.length := by omega
              have hrow : Rows K (hid b Hf) ag (swapE xs j (.ref q)) (swapE ps j (t.1, d)) := by
                refine ⟨Paired.appP (Paired.appP (Paired.takeP j hRf.at_) (.cons ⟨q, p', va, rfl, hqb, ?_, hvd, hok⟩ .nil)) (Paired.dropP (j + 1) hRf.at_), by rw [swap_fst ht]; exact hRf.nd, by rw [swapE_len hlt]; exact few⟩
                obtain ⟨t', ht', e', p'', va1, h1, he', hp'', _⟩ := rowAt hRf.at_ hv
                rw [ht] at ht'
                cases ht'
                cases h1
                have hee := he'
                have he21 : hid b Hf e = some (.tup [.ref p', va0]) := he
                rw [he21] at hee
                cases hee
                exact hp''
              walk_at "rd"
              refine ⟨p5, _, _, ag, rfl, SqL.of (hid_get hpf), hrow.mono hid_ex, fun M4 y4 H22 e22 hM40 hM4 hC4 => ?_⟩
              walk_at "rd"
              refine ⟨rfl, rfl, mk_part (G := imm Hf H22) (imm_ex e22) (.inl (SqL.of hM4)) (Paired.monoP (fun _ _ q => (q.mono hid_ex).row) hC4) hrow.nd (by rw [← Paired.len hrow.at_, swapE_len hlt]; omega) fun x4 tab4 H23 e23 hP23 hT23 => ?_⟩
              have e2223 := e22.trans e23
              have hP23' := hP23.mono (imm_ex e23)
              obtain ⟨⟨dx4, Tb4, kvs4, hx4, -, -⟩, -, -, -⟩ := id hP23'
              refine ⟨x, dx, _, .ref C, rfl, e2223 _ _ (hid_get hxf), CT.ty T.cl hx4, ClsT.nfo, x, ag, tab2, .ref x4, rfl, (hPf.mono hid_ex).mono e2223, .inr ⟨x4, ag, tab4, rfl, hP23', fun rr H24 e24 hrr => ⟨rr, rfl, ?_⟩⟩⟩
              have r24 := rf.bag.ex (e2223.trans e24)
              have hL24 := r24.ex _ _ hL21
              have hR24 := hRf.mono r24.ex
              have hvd24 := hvd.mono r24.ex
              walk_at "rd"
              refine r_ixL (SqL.of (hid_get hL24)) (atI_nat hv) ?_
              obtain ⟨t', ht', e', p'', va1, h1, he', hp'', hva1, _⟩ := rowAt hR24.at_ hv
              rw [ht] at ht'
              cases ht'
              cases h1
              walk_at "rd"
              refine r_ixT (SqT.of (hid_get he')) (atI_nat (j := 1) rfl) ?_
              walk_at "rd"
              refine ⟨va, va1, d, t.2, rfl, hvd24.mono hid_ex, hva1.mono hid_ex, fun r2 H25 e25 hr2 => ?_⟩
              have same : rr = r2 := by
                have key := tab_swap hR.nd ht hT7 hT23
                rw [Bool.eq_iff_iff, hrr, hr2]
                exact ⟨fun h => key.mp h.2, fun h => ⟨rfl, key.mpr h⟩⟩
              subst same
              have r25 := r24.bag.ex e25
              walk_at "rd"
              refine iteND (fun h => absurd rfl h) (fun _ => ?_)
              walk_at "rd"
              exact ⟨⟨_, _, _, _, _, rfl⟩, ((rf.trans r24).trans r25).mono (by omega)⟩
            · rintro σ H20 ⟨⟨v8, v9, v10, v11, v12, rfl⟩, r20⟩
              replace hP7 := hP7.mono r20.ex
              replace hL := r20.ex _ _ hL
              replace hR := hR.mono r20.ex
              walk_at "rd"
              refine mk_part (G := H20) (ag := false) (ps := []) (Evl.Ex.refl _) (.inr (hT0 _)) .nil List.nodup_nil (Nat.zero_le _) fun x5 tab5 H21 e21 hP21 hT21 => ?_
              obtain rfl : tab5 = [] := hT21.perm.eq_nil
              have hP21' := hP21.mono (imm_ex e21)
              obtain ⟨⟨dx5, Tb5, kvs5, hx5, -, -⟩, -, -, -⟩ := id hP21'
              refine ⟨x5, dx5, _, rfl, hx5, x5, false, [], rfl, hP21', fun v5 H22 e22 hv5 => ?_⟩
              walk_at "rd"
              refine ⟨by show 0 ≤ sizeLine; decide, fun p5 hp5 => ?_⟩
              have e23 : Evl.Ex H22 (upd H22 p5 (.tup [])) := Evl.Ex.new hp5
              refine r_neD (d := tabP []) (e := .tuple []) (Dp.mono ((imm_ex e22).trans e23) hv5) (.tup (SqT.of upd_same) .nil) (by decide +kernel) (by decide +kernel) ?_
              have e2023 := (e21.trans e22).trans e23
              generalize upd H22 p5 (HO.tup []) = H23 at e2023 ⊢
              rw [show PyData.eqv (tabP []) (.tuple []) = true from by decide +kernel]
              walk_at "rd"
              refine iteFc rfl ?_
              walk_at "rd"
              refine mk_part (G := H23) (ag := false) (ps := []) (Evl.Ex.refl _) (.inr (hT0 _)) .nil List.nodup_nil (Nat.zero_le _) fun x6 tab6 H24 e24 hP24 hT24 => ?_
              have hP24' := hP24.mono (imm_ex e24)
              obtain ⟨⟨dx6, Tb6, kvs6, hx6, -, -⟩, -, -, -⟩ := id hP24'
              refine ⟨x6, C, dx6, _, .bl false, rfl, hx6, T.cl, T.nA, rfl, ?_⟩
              walk_at "rd"
              refine iteND (fun h => absurd rfl h) (fun _ => ?_)
              walk_at "rd"
              have e2024 := e2023.trans e24
              refine ⟨x, L, xs, ps, tab2, ag, hid b H20, rfl, hid_ex.trans e2024, SqL.of (e2024 _ _ (hid_get hL)), hR, hT7, (hP7.mono hid_ex).mono e2024, fun H25 e25 => ?_⟩
              have rz := (r19.trans r20).trans (r20.bag.ex (e2024.trans e25))
              refine ⟨_, rfl, ?_⟩
              refine iteFc rfl ?_
              walk_at "rd"
              refine ⟨⟨_, _, _, _, _, _, _, _, _, _, _, _, rfl⟩, e0.trans ?_⟩
              have := rz.ex
              rw [eb] at this
              exact this.trans hid_ex
    · rintro σ H0 ⟨⟨w1, w2, w3, w4, w5, w6, w7, w8, w9, w10, w11, w12, rfl⟩, e0⟩
      walk_at "rd"
      exact k _
end

end WP

set_option Elab.async false
set_option linter.all false
set_option maxRecDepth 100000
set_option maxHeartbeats 4000000
namespace WP
open PySem PySem.Spec PyProof.Rows L2
local macro_rules | `(tactic| walk_at "rd") => `(tactic| repeat (first
  | with_reducible refine r_seq ?_ | with_reducible refine r_fld ?_ | with_reducible refine r_prop ?_ | with_reducible refine r_revT ?_ | with_reducible refine r_fldS ?_ | with_reducible refine r_meth ?_ | with_reducible refine r_methX ?_ | with_reducible refine r_make ?_ | with_reducible refine r_makeS ?_ | with_reducible refine r_makeKS ?_ | with_reducible refine r_dcA ?_ | with_reducible refine r_addOS ?_ | with_reducible refine r_dgetT ?_ | with_reducible refine r_dputT ?_ | with_reducible refine r_dget2T ?_ | with_reducible refine r_starT ?_ | with_reducible refine r_statT ?_ | with_reducible refine r_par3 ?_ | with_reducible refine r_callR ?_ | with_reducible refine r_callS ?_ | with_reducible refine r_mkO ?_ | with_reducible refine r_raise ?_ | with_reducible refine r_callW ?_ | with_reducible refine r_tru ?_ | with_reducible refine r_var rfl ?_ | with_reducible refine r_c ?_ | with_reducible refine r_op ?_ | with_reducible refine r_cons ?_ | with_reducible refine r_nil ?_
  | with_reducible refine r_cb ?_ | with_reducible refine r_call ?_ | with_reducible refine r_test ?_ | with_reducible refine r_B ?_ | with_reducible refine r_bl ?_ | with_reducible refine r_asg ?_ | with_reducible refine r_asgS ?_
  | with_reducible refine r_ret ?_ | with_reducible refine r_drop ?_ | with_reducible refine r_ifS ?_ | with_reducible refine r_if ?_ | with_reducible refine r_and ?_ | with_reducible refine r_or ?_ | with_reducible refine r_not ?_
  | with_reducible refine r_andV ?_ | with_reducible refine r_orV ?_ | with_reducible refine r_notV ?_ | with_reducible refine r_chain ?_ | with_reducible refine r_sl ?_ | with_reducible refine r_nopart ?_ | with_reducible refine r_part ?_ | with_reducible refine r_partN ?_ | with_reducible refine r_xv ?_ | with_reducible refine r_xo ?_ | with_reducible refine r_mkV ?_ | with_reducible refine r_forG ?_ | with_reducible refine r_listG ?_ | with_reducible refine r_methG ?_
  | with_reducible refine r_intO ?_ | with_reducible refine r_two ?_ | with_reducible refine r_m1 ?_ | with_reducible refine r_bm ?_ | with_reducible refine r_next ?_ | with_reducible refine r_gCons ?_ | with_reducible refine r_gNil ?_ | with_reducible refine r_asgT ?_ | with_reducible refine r_for ?_ | with_reducible refine r_rng1 ?_ | with_reducible refine r_iList ?_ | with_reducible refine r_iAny ?_ | with_reducible refine r_lc ?_ | with_reducible refine r_yes ?_ | with_reducible refine r_gN ?_ | with_reducible refine r_par ?_ | with_reducible refine r_un ?_ | with_reducible refine r_brk ?_ | with_reducible refine r_cont ?_
  | with_reducible refine r_I0 ?_ | with_reducible refine r_U ?_ | with_reducible refine r_addI ?_ | with_reducible refine r_abs ?_ | with_reducible refine r_intI ?_ | with_reducible refine r_max2 ?_ | with_reducible refine r_min2 ?_
  | with_reducible refine r_ltI ?_ | with_reducible refine r_leI ?_ | with_reducible refine r_gtI ?_ | with_reducible refine r_geI ?_ | with_reducible refine r_isN_non ?_ | with_reducible refine r_isN_int ?_ | with_reducible refine r_isN_str ?_ | with_reducible refine r_isN_bl ?_ | with_reducible refine r_isN_ref ?_ | with_reducible refine r_isN ?_ | with_reducible refine r_isB ?_ | with_reducible refine r_isnotN_non ?_ | with_reducible refine r_isnotN_int ?_ | with_reducible refine r_isnotN_str ?_ | with_reducible refine r_isnotN_bl ?_ | with_reducible refine r_isnotN_ref ?_ | with_reducible refine r_isnotN ?_ | with_reducible refine r_isnotB ?_
  | with_reducible refine r_inS ?_ | with_reducible refine r_eqS rfl ?_ | with_reducible refine r_neS rfl ?_ | with_reducible refine r_lst ?_ | with_reducible refine r_tup ?_ | with_reducible refine iteT ?_ | with_reducible refine iteF ?_))
local macro_rules | `(tactic| walk_at "isi") => `(tactic| (first
  | with_reducible refine r_isi_non_int ?_
  | with_reducible refine r_isi_non_str ?_
  | with_reducible refine r_isi_non_list ?_
  | with_reducible refine r_isi_non_tuple ?_
  | with_reducible refine r_isi_non_bool ?_
  | with_reducible refine r_isi_bl_int ?_
  | with_reducible refine r_isi_bl_str ?_
  | with_reducible refine r_isi_bl_list ?_
  | with_reducible refine r_isi_bl_tuple ?_
  | with_reducible refine r_isi_bl_bool ?_
  | with_reducible refine r_isi_int_int ?_
  | with_reducible refine r_isi_int_str ?_
  | with_reducible refine r_isi_int_list ?_
  | with_reducible refine r_isi_int_tuple ?_
  | with_reducible refine r_isi_int_bool ?_
  | with_reducible refine r_isi_str_int ?_
  | with_reducible refine r_isi_str_str ?_
  | with_reducible refine r_isi_str_list ?_
  | with_reducible refine r_isi_str_tuple ?_
  | with_reducible refine r_isi_str_bool ?_
  | with_reducible refine r_isi_lst_int (SqL.of (by assumption)) ?_
  | with_reducible refine r_isi_lst_str (SqL.of (by assumption)) ?_
  | with_reducible refine r_isi_lst_list (SqL.of (by assumption)) ?_
  | with_reducible refine r_isi_lst_tuple (SqL.of (by assumption)) ?_
  | with_reducible refine r_isi_lst_bool (SqL.of (by assumption)) ?_
  | with_reducible refine r_isi_tup_int (SqT.of (by assumption)) ?_
  | with_reducible refine r_isi_tup_str (SqT.of (by assumption)) ?_
  | with_reducible refine r_isi_tup_list (SqT.of (by assumption)) ?_
  | with_reducible refine r_isi_tup_tuple (SqT.of (by assumption)) ?_
  | with_reducible refine r_isi_tup_bool (SqT.of (by assumption)) ?_))
local macro_rules | `(tactic| walk_at "rs") => `(tactic| (first
  | ((with_reducible refine iteTc ?hc ?_); (case hc => rfl)) | ((with_reducible refine iteFc ?hc ?_); (case hc => rfl))
  | walk_at "isi"
  | refine r_ixL (SqL.of (by assumption)) rfl ?_ | refine r_ixL (SqL.of upd_same) rfl ?_
  | refine r_I (C := fun _ j => 0 < j) (by first | decide | assumption | omega) ?_
  | refine r_mulI (.inl ⟨by decide, by decide⟩) ?_ | refine r_mulI (.inr ⟨by decide, by decide⟩) ?_ | refine r_mulI (.inr ⟨by omega, by omega⟩) ?_ | refine r_mulI (.inl ⟨by omega, by omega⟩) ?_
  | refine r_I (wide_div (b := 64) (by decide) (by decide) (by decide) (by decide)) ?_
  | refine r_I (C := CPow) ⟨by decide, by decide, by decide⟩ ?_
  | refine r_setL (by assumption) rfl ?_ | refine r_setL upd_same rfl ?_))
local macro_rules | `(tactic| walk_at "rx") => `(tactic| (walk_at "rd"; (repeat (walk_at "rs"; walk_at "rd"))))
local macro_rules | `(tactic| walk_at "rl") => `(tactic| repeat (first
  | with_reducible refine r_seq ?_ | with_reducible refine r_fld ?_ | with_reducible refine r_prop ?_ | with_reducible refine r_revT ?_ | with_reducible refine r_fldS ?_ | with_reducible refine r_meth ?_ | with_reducible refine r_methX ?_ | with_reducible refine r_make ?_ | with_reducible refine r_makeS ?_ | with_reducible refine r_makeKS ?_ | with_reducible refine r_dcA ?_ | with_reducible refine r_addOS ?_ | with_reducible refine r_dgetT ?_ | with_reducible refine r_dputT ?_ | with_reducible refine r_dget2T ?_ | with_reducible refine r_starT ?_ | with_reducible refine r_statT ?_ | with_reducible refine r_par3 ?_ | with_reducible refine r_callR ?_ | with_reducible refine r_callS ?_ | with_reducible refine r_mkO ?_ | with_reducible refine r_raise ?_ | with_reducible refine r_callW ?_ | with_reducible refine r_tru ?_ | with_reducible refine r_var rfl ?_ | with_reducible refine r_c ?_ | with_reducible refine r_op ?_ | with_reducible refine r_cons ?_ | with_reducible refine r_nil ?_
  | with_reducible refine r_cb ?_ | with_reducible refine r_call ?_ | with_reducible refine r_test ?_ | with_reducible refine r_B ?_ | with_reducible refine r_bl ?_ | with_reducible refine r_asg ?_ | with_reducible refine r_asgS ?_
  | with_reducible refine r_ret ?_ | with_reducible refine r_drop ?_ | with_reducible refine r_ifS ?_ | with_reducible refine r_if ?_ | with_reducible refine r_and ?_ | with_reducible refine r_or ?_ | with_reducible refine r_not ?_
  | with_reducible refine r_andV ?_ | with_reducible refine r_orV ?_ | with_reducible refine r_notV ?_ | with_reducible refine r_chain ?_ | with_reducible refine r_sl ?_ | with_reducible refine r_nopart ?_ | with_reducible refine r_part ?_ | with_reducible refine r_partN ?_ | with_reducible refine r_xv ?_ | with_reducible refine r_xo ?_ | with_reducible refine r_mkV ?_ | with_reducible refine r_forG ?_ | with_reducible refine r_listG ?_ | with_reducible refine r_methG ?_
  | with_reducible refine r_intO ?_ | with_reducible refine r_two ?_ | with_reducible refine r_m1 ?_ | with_reducible refine r_bm ?_ | with_reducible refine r_next ?_ | with_reducible refine r_gCons ?_ | with_reducible refine r_gNil ?_ | with_reducible refine r_asgT ?_ | with_reducible refine r_for ?_ | with_reducible refine r_rng1 ?_ | with_reducible refine r_iList ?_ | with_reducible refine r_iAny ?_ | with_reducible refine r_lc ?_ | with_reducible refine r_yes ?_ | with_reducible refine r_gN ?_ | with_reducible refine r_par ?_ | with_reducible refine r_un ?_ | with_reducible refine r_brk ?_ | with_reducible refine r_cont ?_
  | with_reducible refine r_I0 ?_ | with_reducible refine r_U ?_ | with_reducible refine r_addI ?_ | with_reducible refine r_abs ?_ | with_reducible refine r_intI ?_ | with_reducible refine r_max2 ?_ | with_reducible refine r_min2 ?_
  | with_reducible refine r_ltI ?_ | with_reducible refine r_leI ?_ | with_reducible refine r_gtI ?_ | with_reducible refine r_geI ?_ | with_reducible refine r_isN_non ?_ | with_reducible refine r_isN_int ?_ | with_reducible refine r_isN_str ?_ | with_reducible refine r_isN_bl ?_ | with_reducible refine r_isN_ref ?_ | with_reducible refine r_isN ?_ | with_reducible refine r_isB ?_ | with_reducible refine r_isnotN_non ?_ | with_reducible refine r_isnotN_int ?_ | with_reducible refine r_isnotN_str ?_ | with_reducible refine r_isnotN_bl ?_ | with_reducible refine r_isnotN_ref ?_ | with_reducible refine r_isnotN ?_ | with_reducible refine r_isnotB ?_
  | with_reducible refine r_inS ?_ | with_reducible refine r_eqS rfl ?_ | with_reducible refine r_neS rfl ?_ | with_reducible refine iteT ?_ | with_reducible refine iteF ?_))
local macro_rules | `(tactic| walk_at "bld") => `(tactic| repeat' (first
  | exact bldA_nil | refine bldA_cons ?_ ?_ | refine bld_tup ?_ | refine bld_lst ?_ | exact bld_str | exact bld_int | exact bld_non | exact bld_bl | refine bld_mul ?_ (mulOk_w (by decide) (by decide) (by decide +kernel)) | refine bld_add ?_ ?_ ?_))

theorem facts {w : World} {K : PySem.W.Frag} {h : Heap} {mg : Str → Option Value} {f : Addr} (X : K.In h) (G : h.Ns mainGlobals mg) (hfa : mg ("law" : Str) = some (.ref f)) (c : He.SaysD fa fn K) (hxs : xs.map (fun d => inW K d.x) = xs.map ExD.val) (hys : ys.map (fun d => fnWA K (d.path K)) = ys.map PaD.val) (hex : ex K = true) :
    ∃ fd : FuncData, (∀ (s : Shared) (v : Value), BindsTo s fd ⟨[v], []⟩ [("_law_script", v)]) ∧ ∀ base : Heap, K.In base → base.Ns mainGlobals mg → FnG PW w K mg base L2.CX0 9 f fd ["_law_script"] (spLaw K) := by
  have B : Bl mg := bl_of X G c
  obtain ⟨hx1, hex⟩ := Bool.and_eq_true_iff.mp hex
  obtain ⟨hx2, hex⟩ := Bool.and_eq_true_iff.mp hex
  obtain ⟨hx3, hex⟩ := Bool.and_eq_true_iff.mp hex
  obtain ⟨hx4, hex⟩ := Bool.and_eq_true_iff.mp hex
  obtain ⟨hx4a, hx4b⟩ := Bool.and_eq_true_iff.mp hx4
  obtain ⟨hx5, hx6⟩ := Bool.and_eq_true_iff.mp hex
  obtain ⟨hx5a, hx5b⟩ := Bool.and_eq_true_iff.mp hx5
  obtain ⟨fd, F⟩ := c.def_ 44 (d := d_law) rfl
  have e := hfa.symm.trans (He.glo_ok X G (c.fact 61 (f := .glo "law") rfl))
  cases e
  have b := FunD.bindsA (ps := ["_law_script"]) F fun _ _ _ _ _ _ us hl => match us, hl with | [_], _ => rfl
  refine ⟨fd, fun s v => b s [v] rfl, fun base _ _ => ?_⟩
  have g_KEYWORDS : ∃ u, mg "KEYWORDS" = some u ∧ RelV (.ref (He.ga K "KEYWORDS")) u := ⟨_, He.glo_ok X G (c.fact 65 (f := .glo "KEYWORDS") rfl), rfl⟩
  have hK : ∀ H, SqT K H (He.ga K "KEYWORDS") (kwS.map V.str) := fun H => by
    have := He.tupB_ok hx1 H
    rw [List.map_map] at this
    exact this
  have mP : mg "Part" = some (.ref (He.ga K "Part")) := He.glo_ok X G (c.fact 67 (f := .glo "Part") rfl)
  have ET := excT_of (P := PW) (d := xd) X G (inW_at hxs 0) hx2 (by decide +kernel)
  have hsup : mg "super" = none := He.free_ok X G (c.fact 68 (f := .free "super") rfl)
  have hsum : mg "sum" = none := He.free_ok X G (c.fact 69 (f := .free "sum") rfl)
  have hno : PySem.W.findIn K (.ref (He.ga K "BadPart")) "at" = some none := He.eqO_ok (c.fact 70 (f := .noat "BadPart" "at") rfl)
  have cl : Cls K (He.ga K "Part") := He.cls_ok (c.fact 71 (f := .cls "Part") rfl)
  have CT : ClsT K (He.ga K "Part") := clsT_of hx3
  have T : PartT K (He.ga K "Part") := ⟨cl, He.noat_ok (c.fact 72 (f := .noat "Part" "ageing") rfl), He.noat_ok (c.fact 73 (f := .noat "Part" "table") rfl)⟩
  have mk := He.mkr_ok (c.fact 74 (f := .mkr "Part") rfl)
  have eB := e_badpart (P := PW) (w := w) (base := base) ET hsup hno
  have icn := c_is_class_name (P := PW) (w := w) (base := base) (at_of X G c 0 17) B (gs_of X G c 62) (gs_of X G c 63)
  have inu := c_is_number (P := PW) (w := w) (base := base) (at_of X G c 1 18) B
  have isw := c_is_word_2 (P := PW) (w := w) (base := base) (atD_of X G c 2 19) B (gs_of X G c 62)
  have isw1 := c_is_word_1 (P := PW) (w := w) (base := base) (atD_of X G c 2 19) B (gs_of X G c 62)
  have iit := c_is_item (P := PW) (w := w) (base := base) (at_of X G c 3 20) B inu isw1
  have ira := c_is_raised (P := PW) (w := w) (base := base) (at_of X G c 4 21) B icn
  have ian := c_is_answer (P := PW) (w := w) (base := base) (at_of X G c 5 22) B iit ira
  have isn := c_is_name_ (P := PW) (w := w) (base := base) (at_of X G c 7 24) B isw g_KEYWORDS hK
  have isct := c_is_constant_text_ (P := PW) (w := w) (base := base) (at_of X G c 9 26) B isw (c_is_number_text_ (at_of X G c 8 25) B (gs_of X G c 64))
  have isc := c_is_call_ (P := PW) (w := w) (base := base) (at_of X G c 10 27) B isn isct
  have isp := c_is_path_1k1_ (P := PW) (w := w) (base := base) (atD_of X G c 11 28) B isc
  have ent := c_is_entry_ (P := PW) (w := w) (base := base) (at_of X G c 13 30) B isp ian
  have cop := c_copy_of_ (P := PW) (w := w) (base := base) (at_of X G c 12 29) B
  obtain ⟨fdI, FI⟩ : ∃ fdI, FunD K "__init__" "Part.__init__" (defArgs s_Part_init) (defBody s_Part_init) (defScope s_Part_init) [V.ref (dflAd ("Part", some "__init__") 0 K)] [("ageing", V.bl false)] (He.ma K (He.ga K "Part") "__init__") fdI := c.def_ 14 (d := d_Part_init) rfl
  have mI := He.meth_ok (c.fact 31 (f := .meth "Part" "__init__") rfl)
  have okI := c_part (P := PW) (w := w) (base := base) FI B T ent cop eB
  have kP : CalCK PW w K mg base (L2.CX PW w) 6 "Part" (He.ga K "Part") (spPart K (He.ga K "Part") (He.ga K "BadPart")) 1 ["ageing"] := calCK_ofF FI mI okI ⟨_, mk⟩ mP 1 ["ageing"] rfl (by
    intro T kV doc pm an cdv ct us its ws h1 h2 h3
    match us, its, ws, h1, h2, h3 with
    | [_, _], [_], [_], _, _, _ => exact ⟨_, rfl, rfl⟩)
  have kP0 : CalCD PW w K mg base (L2.CX PW w) 6 "Part" (He.ga K "Part") (spPart K (He.ga K "Part") (He.ga K "BadPart")) [.ref (dflAd ("Part", some "__init__") 0 K), .bl false] := calCD_ofF FI mI okI ⟨_, mk⟩ mP 1 0 (by simp) (by simp) rfl (fun _ _ _ _ _ _ _ us its ks h1 h2 h3 => match us, its, ks, h1, h2, h3 with | [_], [_], [_], _, _, _ => ⟨_, rfl, _, _, _, _, _, _, rfl, rfl, rfl⟩)
  have wt := c_weight (P := PW) (w := w) (base := base) (K := K) (x := "weight_answers") (by
    obtain ⟨fdW, FW⟩ := c.def_ 6 (d := d_weight) rfl
    exact ⟨_, fdW, FW, He.glo_ok X G (c.fact 23 (f := .glo "weight_answers") rfl)⟩) B
  have aE : AtP K (He.ga K "Part") "entries" "Part.entries" s_Part_entries := by
    obtain ⟨fd, FP⟩ := PaD.funD (d := ydE) (fnWA_at hys 0) hx5a
    obtain ⟨p, hp⟩ := propB_ok (C := "Part") (f := "entries") hx4a
    exact ⟨p, _, fd, FP, hp⟩
  have aW : AtP K (He.ga K "Part") "weight" "Part.weight" s_Part_weight := by
    obtain ⟨fd, FP⟩ := PaD.funD (d := ydW) (fnWA_at hys 1) hx5b
    obtain ⟨p, hp⟩ := propB_ok (C := "Part") (f := "weight") hx4b
    exact ⟨p, _, fd, FP, hp⟩
  have pE := c_Part_entries_ (P := PW) (w := w) (base := base) aE B T cop
  have pW := c_Part_weight_ (P := PW) (w := w) (base := base) aW B T hsum wt
  have pL := c_Part_len_ (P := PW) (w := w) (base := base) (atM_of c 15 32) B T
  have pQ := c_Part_eq_ (P := PW) (w := w) (base := base) (atM_of c 16 33) B T CT ⟨_, mP, rfl⟩ cl pE
  have take := c_take (P := PW) (w := w) (base := base) (at_of X G c 24 41) B
  have of_ := c_of (P := PW) (w := w) (base := base) (at_of X G c 25 42) B take
  have word := c_word (P := PW) (w := w) (base := base) (at_of X G c 28 45) B take of_
  have num := c_number (P := PW) (w := w) (base := base) (at_of X G c 26 43) B take of_
  have con := c_any_constant (P := PW) (w := w) (base := base) (at_of X G c 36 53) B take of_ word num
  have wri0 : Cal PW w K mg base 1 "_law_written" (fun _ _ _ _ => False) := cal_of (at_of X G c 27 44) sc_law_written (fun vs H Q E h => h.elim) (fun _ _ _ _ _ _ us hl => match us, hl with | [_], _ => rfl) (fun f cdv A outer s H vs Q E hr h => h.elim)
  have wri := c_written_ (P := PW) (w := w) (base := base) (at_of X G c 27 44) B wri0
  have kws := c_keywords (P := PW) (w := w) (base := base) (at_of X G c 38 55) B
  have nam := c_any_name (P := PW) (w := w) (base := base) (at_of X G c 39 56) B take of_ kws
  have aca := c_any_call (P := PW) (w := w) (base := base) (at_of X G c 40 57) B take con nam (c_call_text_ (at_of X G c 37 54) B wri)
  have lna := c_lname (P := PW) (w := w) (base := base) (at_of X G c 29 46) B of_ word
  have lfa := c_lfamily (P := PW) (w := w) (base := base) (at_of X G c 30 47) B take of_ word
  have cor := c_core (P := PW) (w := w) (base := base) (at_of X G c 31 48) B take of_ word num wri lna lfa
  have lpa := c_lpath (P := PW) (w := w) (base := base) (at_of X G c 32 49) B take of_
  have lne := c_near35 (P := PW) (w := w) (base := base) (at_of X G c 33 50) B take of_
  have laa := c_any_ans (P := PW) (w := w) (base := base) (at_of X G c 34 51) B take of_ lne
  have tex := c_texts (P := PW) (w := w) (base := base) (at_of X G c 41 58) B take aca
  have pai := c_pairs (P := PW) (w := w) (base := base) (at_of X G c 35 52) B take lpa laa 12 (by omega)
  have lco := c_lcopy (P := PW) (w := w) (base := base) (at_of X G c 42 59) B
  have law_ := c_lweight (P := PW) (w := w) (base := base) (at_of X G c 17 34) B
  have laat := c_answer_at (P := PW) (w := w) (base := base) (at_of X G c 18 35) B
  have lke := c_kept (P := PW) (w := w) (base := base) (at_of X G c 19 36) B laat
  have leq := c_equal (P := PW) (w := w) (base := base) (at_of X G c 20 37) B B.repr
  have lar := c_are (P := PW) (w := w) (base := base) (at_of X G c 21 38) B B.repr lke leq
  have lii := c_law_is_integer_ (P := PW) (w := w) (base := base) (at_of X G c 22 39) B
  have lir := c_is_right (P := PW) (w := w) (base := base) (at_of X G c 43 60) B T cl hsum law_ lke lar lii pE pW pL
  exact c_law F B T CT cl (tupAtB_ok hx6) (c_bag (at_of X G c 23 40) B) take cor tex pai lco laa leq lir kP kP0 pE pQ
end WP
open PySem PySem.W PySem.Calls PyProof.Rows
set_option maxRecDepth 100000 in
set_option maxHeartbeats 0 in
theorem PySem.Challenge.cw_whatpasses_k34_parts_made_holds : PySem.Challenge.rw_whatpasses_k34_parts_made.Holds := by
  w_on; o_law
  refine HandSHeadRun.head_any (r := OpenLaw.row PySem.Challenge.rw_whatpasses_k34_parts_made) (q := view (OpenLaw.row PySem.Challenge.rw_whatpasses_k34_parts_made).prog [57]) (H := WP.hk) (ob := WP.ob) (M := WP.steps) (loose := WP.loose) (d := HandSHeadRun.topDef (OpenLaw.row PySem.Challenge.rw_whatpasses_k34_parts_made).prog 57) (kwd := []) WP.ob_eq
    (by kernel_rfl) (fun s => by kernel_rfl) WP.run (by kernel_rfl) (by kernel_rfl) (by kernel_rfl) (by rfl) (by first | assumption | decide +kernel) (by decide +kernel) ⟨rfl, rfl, rfl, rfl, rfl, by decide +kernel⟩ ?hw ?hc
  case hw => w_witness2
  case hc =>
    refine WP.walk_ofG (l := PySem.Challenge.rw_whatpasses_k34_parts_made) (n := 63) (k := 9) (x := "_law_script") (CX := L2.CX0) rfl (by decide) (by kernel_rfl) ⟨rfl, by decide, by decide⟩ ?F (fun _ _ _ _ z => z)
    intro w mg fa h Y G hmg0
    obtain ⟨K, KX, c, hxs, hys, hex⟩ := Y
    have hmg : mg ("law" : PySem.Str) = some (.ref fa) := by
      have e : (HandSHeadRun.topDef (OpenLaw.row PySem.Challenge.rw_whatpasses_k34_parts_made).prog 57).name = ("law" : PySem.Str) := by kernel_rfl
      rw [← e]
      exact hmg0
    obtain ⟨fd, hb, hF⟩ := WP.facts (w := w) KX G hmg c hxs hys hex
    exact ⟨K, fd, WP.spLaw K, KX, hb, fun H a ns hl _ hS => ⟨a, ns, rfl, hS, hl, fun _ => rfl⟩, hF⟩
#print axioms PySem.Challenge.cw_whatpasses_k34_parts_made_holds

