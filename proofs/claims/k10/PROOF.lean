import PyProof.Rows.All
import Wide.All
import OpenK.AllK
import Wide.FinOn
import HandS.ForMost
import HandS.Wide
import HandS.WideBits
import HandS.Flow
import HandS.Style
import HandS.IsInst
import HandS.Codes
import HandS.Evl
import HandS.TupAny
import HandS.Walk
import HandS.Defaults
import HandS.WordsExc
import HandS.Head0
import HandS.Head1
import HandS.Head2
import HandS.HeadEnd
import HandS.HeadHook1
import HandS.HeadHook2
import PySem.Challenge.RW_whatpasses_k10_paths_known
set_option Elab.async false
set_option linter.all false
set_option maxRecDepth 100000
set_option maxHeartbeats 4000000
namespace WP
open PySem PySem.Spec PyProof.Rows L2

/-! ### rules that take what comes -/
def rAddA (K : PySem.W.Frag) : R2 := fun x y H Q => (∃ i j, x = .int i ∧ y = .int j ∧ Q (.int (i + j)) H) ∨ (∃ i j, x = .str i ∧ y = .str j ∧ i.length + j.length ≤ sizeLine ∧ Q (.str (i ++ j)) H) ∨ rCat x y H Q ∨ rCatT K x y H Q
def rMulA : R2 := fun x y H Q => (∃ i j, x = .int i ∧ y = .int j ∧ CMul i j ∧ Q (.int (i * j)) H) ∨ rRep x y H Q ∨ ∃ z n, x = .str z ∧ y = .int n ∧ MulOk z n ∧ Q (.str (Txt.mul z n)) H
def rLenA (K : PySem.W.Frag) : List V → Hp → VK → Prop := fun xs H Q => ∃ x n, xs = [x] ∧ LenV K x H n ∧ Q (.int (n : Nat)) H
def rAbsA : List V → Hp → VK → Prop := fun xs H Q => ∃ i, xs = [.int i] ∧ Q (.int (if i < 0 then -i else i)) H
def rIntA : List V → Hp → VK → Prop := fun xs H Q => (∃ i, xs = [.int i] ∧ Q (.int i) H) ∨ ∃ k, xs = [.bl k] ∧ Q (.int (if k then 1 else 0)) H
def rMax2A : List V → Hp → VK → Prop := fun xs H Q => ∃ i j, xs = [.int i, .int j] ∧ Q (.int (if j > i then j else i)) H
def rMin2A : List V → Hp → VK → Prop := fun xs H Q => ∃ i j, xs = [.int i, .int j] ∧ Q (.int (if j < i then j else i)) H
def rEqA (K : PySem.W.Frag) : R2 := fun x y H Q => rEq x y H Q ∨ rEqD K x y H Q
def rNeA (K : PySem.W.Frag) : R2 := fun x y H Q => rNe x y H Q ∨ rNeD K x y H Q
def rLtA : R2 := fun x y H Q => (∃ i j, x = .int i ∧ y = .int j ∧ Q (.bl (decide (i < j))) H) ∨ ∃ i j, x = .str i ∧ y = .str j ∧ Q (.bl (decide (i.cps.toList < j.cps.toList))) H
def rLeA : R2 := fun x y H Q => ∃ i j, x = .int i ∧ y = .int j ∧ Q (.bl (decide (i ≤ j))) H
def rGtA : R2 := fun x y H Q => ∃ i j, x = .int i ∧ y = .int j ∧ Q (.bl (decide (j < i))) H
def rGeA : R2 := fun x y H Q => ∃ i j, x = .int i ∧ y = .int j ∧ Q (.bl (decide (j ≤ i))) H
def rIsA : R2 := fun x y H Q => (y = .non ∧ Q (.bl (decide (x = .non))) H) ∨ ∃ a b : Bool, x = .bl a ∧ y = .bl b ∧ Q (.bl (decide (a = b))) H
def rIsNotA : R2 := fun x y H Q => (y = .non ∧ Q (.bl (!decide (x = .non))) H) ∨ ∃ a b : Bool, x = .bl a ∧ y = .bl b ∧ Q (.bl (!decide (a = b))) H
def rInA (K : PySem.W.Frag) : R2 := fun x y H Q => (∃ (c : Nat) (z : Str), x = .str ⟨#[c]⟩ ∧ y = .str z ∧ Q (.bl (decide (c ∈ z.cps.toList))) H) ∨ rIn K false x y H Q
def rNotInA (K : PySem.W.Frag) : R2 := fun x y H Q => (∃ (c : Nat) (z : Str), x = .str ⟨#[c]⟩ ∧ y = .str z ∧ Q (.bl (!decide (c ∈ z.cps.toList))) H) ∨ rIn K true x y H Q
def rSlA3 (K : PySem.W.Frag) : V → Option Int → Option Int → Hp → VK → Prop := fun x lo hi H Q => rSlS x lo hi H Q ∨ rSlL K x lo hi H Q
section
variable {X : Cx}
theorem op_addA (K : PySem.W.Frag) (h : X.K = K := by rfl) : OpR X (binaryOp .Add) (rAddA K) := by subst h; exact op_add.or (op_add_str.or (op_cat.or op_catT))
theorem op_mulStr : OpR X (binaryOp .Mult) (fun x y H Q => ∃ z n, x = .str z ∧ y = .int n ∧ MulOk z n ∧ Q (.str (Txt.mul z n)) H) := by
  rintro pins s σ H x y v u Q I rx ry ⟨z, n, rfl, rfl, hok, q⟩
  obtain ⟨t, rfl⟩ := rx
  obtain ⟨t', rfl⟩ := ry
  exact SB.mul hok fun _ _ => ⟨.str (Txt.mul z n), H, I.tok _, ⟨_, rfl⟩, q⟩
theorem op_mulA : OpR X (binaryOp .Mult) rMulA := op_mul.or (op_rep.or op_mulStr)
theorem call_lenA (K : PySem.W.Frag) (h : X.K = K := by rfl) : CallR X (.builtin "len") (rLenA K) := by subst h; exact call_len
theorem call_absA : CallR X (.builtin "abs") rAbsA := call_abs
theorem call_intA : CallR X (.type "int") rIntA := call_int1
theorem call_max2A (hc : X.calm = true) : CallR X (.builtin "max") rMax2A := call_max2 hc
theorem call_min2A (hc : X.calm = true) : CallR X (.builtin "min") rMin2A := call_min2 hc
theorem call_isinstanceA (K : PySem.W.Frag) (h : X.K = K := by rfl) : CallR X (.builtin "isinstance") (rIsi K) := by subst h; exact call_isi
theorem call_isinstanceTA (K : PySem.W.Frag) (h : X.K = K := by rfl) : CallR X (.builtin "isinstance") (rIsiT K) := by subst h; exact call_isiT
theorem call_allA (K : PySem.W.Frag) (hc : X.calm = true) (h : X.K = K := by rfl) : CallR X (.builtin "all") (rAll K) := by subst h; exact cr_all hc
theorem call_anyA (K : PySem.W.Frag) (hc : X.calm = true) (h : X.K = K := by rfl) : CallR X (.builtin "any") (rAny K) := by subst h; exact cr_any hc
theorem op_eqA (K : PySem.W.Frag) (hu : X.A.units + 64 < cLine) (h : X.K = K := by rfl) : OpR X (compareOp .Eq) (rEqA K) := by subst h; exact op_eq.or (op_eqD hu)
theorem op_neA (K : PySem.W.Frag) (hu : X.A.units + 64 < cLine) (h : X.K = K := by rfl) : OpR X (compareOp .NotEq) (rNeA K) := by subst h; exact op_ne.or (op_neD hu)
def rTupleA (K : PySem.W.Frag) : List V → Hp → VK → Prop := fun xs H Q => ∃ p ys, xs = [.ref p] ∧ ((SqL K H p ys ∧ ∀ l, H l = none → Q (.ref l) (upd H l (.tup ys))) ∨ (SqT K H p ys ∧ Q (.ref p) H))
def rListA (K : PySem.W.Frag) : List V → Hp → VK → Prop := fun xs H Q => ∃ p ys, xs = [.ref p] ∧ (SqL K H p ys ∨ SqT K H p ys) ∧ ∀ l, H l = none → Q (.ref l) (upd H l (.lst ys))
theorem call_tupleA (K : PySem.W.Frag) (h : X.K = K := by rfl) : CallR X (.type "tuple") (rTupleA K) := by subst h; exact call_tuple_of
theorem call_listA (K : PySem.W.Frag) (h : X.K = K := by rfl) : CallR X (.type "list") (rListA K) := by subst h; exact call_list_of
theorem op_ltA : OpR X (compareOp .Lt) rLtA := op_lt.or op_lt_str
theorem op_leA : OpR X (compareOp .LtE) rLeA := op_le
theorem op_gtA : OpR X (compareOp .Gt) rGtA := op_gt
theorem op_geA : OpR X (compareOp .GtE) rGeA := op_ge
theorem op_isA : OpR X (compareOp .Is) rIsA := op_isN.or op_isBl
theorem op_isnotA : OpR X (compareOp .IsNot) rIsNotA := op_notN.or op_notBl
theorem op_inA (K : PySem.W.Frag) (h : X.K = K := by rfl) : OpR X (compareOp .In) (rInA K) := by subst h; exact op_in_sign.or op_in_seq
theorem op_notInA (K : PySem.W.Frag) (h : X.K = K := by rfl) : OpR X (compareOp .NotIn) (rNotInA K) := by subst h; exact op_notIn_sign.or op_notIn_seq
theorem sl_A (K : PySem.W.Frag) (h : X.K = K := by rfl) : SlR X (rSlA3 K) := by subst h; exact sl_str.or sl_list
theorem ix_A (K : PySem.W.Frag) (h : X.K = K := by rfl) : IxR X (rIx K) := by subst h; exact ix_seq
def rJoinA (K : PySem.W.Frag) : V → List V → Hp → VK → Prop := fun x xs H Q => ∃ a p, ∃ ys : List Str, x = .str a ∧ xs = [.ref p] ∧ (SqL K H p (ys.map V.str) ∨ SqT K H p (ys.map V.str)) ∧ (ys.map (·.length)).sum + ys.length * a.length ≤ 16777216 ∧ Q (.str (Txt.join a ys)) H
theorem pe_joinA (K : PySem.W.Frag) {o e : Expr} {to te : TE} {apos pos : Pos} (ho : PE X o to) (he : PE X e te) (h : X.K = K := by rfl) (hs : starEach [e] X.env = [(false, eval e X.env)] := by rfl) (hbase : attributeBase o "join" X.env (eval o X.env) = eval o X.env := by rfl) (hline : (apos.endLine == pos.line) = true := by rfl) :
    PE X (.Call (.Attribute o "join" apos) [e] [] pos) (tM1 (rJoinA K) to te) := by subst h; exact pe_join ho he hs hbase hline
theorem pe_appendA (K : PySem.W.Frag) {o e : Expr} {to te : TE} {apos pos : Pos} (hb : PE X (.Call (.Attribute o "append" apos) [e] [] pos) (tBM X.K "list" rAppend to (tCons te tNil))) (h : X.K = K := by rfl) :
    PE X (.Call (.Attribute o "append" apos) [e] [] pos) (tBM K "list" rAppend to (tCons te tNil)) := by subst h; exact hb
end

/-! ### what is walked: a list, a tuple, a text -/
def iAny (K : PySem.W.Frag) (te : TE) : TI := fun σ H R => te σ H fun x H1 => (∃ a, x = .ref a ∧ (∃ xs, SqL K H1 a xs) ∧ R (Itl K a) H1) ∨ (∃ a, x = .ref a ∧ (∃ xs, SqT K H1 a xs) ∧ R (Itt K a) H1) ∨ (∃ z, x = .str z ∧ R (Its z) H1)
theorem pi_any {X : Cx} (K : PySem.W.Frag) {tg e : Expr} {te : TE} (he : PE X e te) (h : X.K = K := by rfl) : PI X tg e (iAny K te) := by
  subst h
  constructor
  intro pins s σ H R I h
  refine thn (he.run pins s σ H _ I h) ?_
  rintro v s1 ⟨x, H1, I1, r1, ⟨a, rfl, ⟨xs, hq⟩, q⟩ | ⟨a, rfl, ⟨xs, hq⟩, q⟩ | ⟨z, rfl, q⟩⟩
  · cases r1
    obtain ⟨its, rv, p, hz⟩ := I1.list hq
    refine wpAny_pyIter_list p.isList ⟨s1.heap.objs.size, [s1.heap.objs.size], _, _, H1, rfl, ?_, turn_list a _, ⟨_, Heap.get?_push_size _ rfl, rfl, rfl⟩, fun b hb => ?_, q⟩
    · exact I1.kept (t' := s1.toks) fun b o e => Heap.get?_push_of_some _ e
    · rw [List.mem_singleton.mp hb]
      exact I1.fpOk (Nat.le_refl _) (I1.hok.fresh (Nat.le_refl _))
  · cases r1
    obtain ⟨its, rv, p, hz⟩ := I1.tuple hq
    have p2 : s1.heap.IsTuple a its.toArray := p
    refine wpAny_pyIter_tuple p2 ⟨s1.heap.objs.size, [s1.heap.objs.size], _, _, H1, rfl, ?_, turn_tuple a _, ⟨_, Heap.get?_push_size _ rfl, rfl, rfl⟩, fun b hb => ?_, q⟩
    · exact I1.kept (t' := s1.toks) fun b o e => Heap.get?_push_of_some _ e
    · rw [List.mem_singleton.mp hb]
      exact I1.fpOk (Nat.le_refl _) (I1.hok.fresh (Nat.le_refl _))
  · obtain ⟨t, rfl⟩ := r1
    by_cases ha : z.cps.all (· < 128) = true
    · exact wpAny_pyIter_ascii ha (pi_one (tk := s1.toks) I1 _ (turn_str _ z t _ (.inl rfl)) ⟨_, Heap.get?_push_size _ rfl, rfl, rfl⟩ q)
    · exact wpAny_pyIter_wide (by simpa using ha) (pi_one (tk := s1.toks) I1 _ (turn_str _ z t _ (.inr rfl)) ⟨_, Heap.get?_push_size _ rfl, rfl, rfl⟩ q)

/-! ### a def that may be called by its name -/
structure Cal (P : Program) (w : World) (K : PySem.W.Frag) (mg : Str → Option Value) (base : Heap) (k : Nat) (x : Str) (sp : Sp) : Prop where
  ex : ∃ (f : Addr) (fd : FuncData) (ps : List Str), FnOk P w K mg base L2.CX0 k f fd ps sp ∧ mg x = some (.ref f) ∧ PySem.W.keepIn K (.ref f) = true ∧ Binds K fd ps []
section
variable {X : Cx} {k j : Nat} {x : Str} {sp : Sp} {p pos : Pos} {e : Expr} {es : List Expr} {t : TA}
theorem pe_cA (c : Cal X.prog X.w X.K X.mg X.base k x sp) (hr : Room j X.A) (hk : k ≤ j) (hg : Gl X x) (ha : PA X (e :: es) t)
    (hdb : (x == ("__debug__" : Str)) = false := by decide) (he : starEach (e :: es) X.env = (false, eval e X.env) :: starEach es X.env := by rfl) (hpl : (backTo pos (starEach es X.env)).any (·.1) = false := by rfl) :
    PE X (.Call (.Name x p) (e :: es) [] pos) (tCall sp [] L2.E0 t) := by
  obtain ⟨f, fd, ps, F, hm, kp, b⟩ := c.ex
  exact pe_call F (hr.mono hk) hg hm kp b .nil L2.pass0 ha hdb he hpl
end
section
variable {P : Program} {w : World} {K : PySem.W.Frag} {mg : Str → Option Value} {base : Heap}
/-- what the head tells of one def -/
structure At (K : PySem.W.Frag) (mg : Str → Option Value) (x : Str) (st : Stmt) : Prop where
  ex : ∃ (f : Addr) (fd : FuncData), FunD K x x (defArgs st) (defBody st) (defScope st) [] [] f fd ∧ mg x = some (.ref f)
theorem fnok_of {x : Str} {st : Stmt} {f : Addr} {fd : FuncData} {N ps : List Str} {k : Nat} {sp : Sp} (F : FunD K x x (defArgs st) (defBody st) (defScope st) [] [] f fd) (S : FnScope N ps (defScope st)) (len : ∀ vs H Q E, sp vs H Q E → vs.length = ps.length)
    (hbody : ∀ (cdv : Value) (A : Around) (outer : List Env) (s : Shared) (H : Hp) (vs : List V) (Q : VK) (E : XK), Room k (A.deeper (envOfC x (defScope st) s.heap.objs.size f cdv)) → sp vs H Q E →
      ∃ t, PSs (cxOf L2.CX0 P w K mg base N x (defScope st) f cdv A outer s H E).nox (defBody st) t ∧ t { nx := fun _ H' => Q .non H', rt := Q } (start N vs) H) : FnOk P w K mg base L2.CX0 (k + 1) f fd ps sp := by
  refine F.ok S len fun cdv A outer s H vs Q E hr hsp => ?_
  obtain ⟨t, h, q⟩ := hbody cdv A outer s H vs Q E hr hsp
  exact ⟨t, h.nox, q⟩
theorem cal_of {x : Str} {st : Stmt} {N ps : List Str} {k : Nat} {sp : Sp} (F : At K mg x st) (S : FnScope N ps (defScope st)) (len : ∀ vs H Q E, sp vs H Q E → vs.length = ps.length)
    (hb : ∀ (kV doc pm : Value) (an : Option Addr) (cdv ct : Value) (us : List Value), us.length = ps.length → bindArgs (PySem.W.fnOf x x (defArgs st) (defBody st) (defScope st) .none kV doc pm an cdv ct) ⟨us, []⟩ = pure (ps.zip us))
    (hbody : ∀ (f : Addr) (cdv : Value) (A : Around) (outer : List Env) (s : Shared) (H : Hp) (vs : List V) (Q : VK) (E : XK), Room k (A.deeper (envOfC x (defScope st) s.heap.objs.size f cdv)) → sp vs H Q E →
      ∃ t, PSs (cxOf L2.CX0 P w K mg base N x (defScope st) f cdv A outer s H E).nox (defBody st) t ∧ t { nx := fun _ H' => Q .non H', rt := Q } (start N vs) H) : Cal P w K mg base (k + 1) x sp := by
  obtain ⟨f, fd, F, m⟩ := F.ex
  refine ⟨f, fd, ps, F.ok S len fun cdv A outer s H vs Q E hr hsp => ?_, m, F.kp, F.bindsN hb⟩
  obtain ⟨t, h, q⟩ := hbody f cdv A outer s H vs Q E hr hsp
  exact ⟨t, h.nox, q⟩
end

/-! ### defs with defaults -/
structure AtD (K : PySem.W.Frag) (mg : Str → Option Value) (x : Str) (st : Stmt) (dvs : List V) (kws : List (Str × V)) : Prop where
  ex : ∃ (f : Addr) (fd : FuncData), FunD K x x (defArgs st) (defBody st) (defScope st) dvs kws f fd ∧ mg x = some (.ref f)
structure CalD (P : Program) (w : World) (K : PySem.W.Frag) (mg : Str → Option Value) (base : Heap) (k : Nat) (x : Str) (sp : Sp) (dvs : List V) : Prop where
  ex : ∃ (f : Addr) (fd : FuncData) (ps : List Str) (ds : List Value), FnOk P w K mg base L2.CX0 k f fd ps sp ∧ mg x = some (.ref f) ∧ PySem.W.keepIn K (.ref f) = true ∧ Binds K fd ps ds ∧ Vals dvs ds
section
variable {X : Cx} {k j : Nat} {x : Str} {sp : Sp} {dvs : List V} {p pos : Pos} {e : Expr} {es : List Expr} {t : TA}
theorem pe_cD (c : CalD X.prog X.w X.K X.mg X.base k x sp dvs) (hr : Room j X.A) (hk : k ≤ j) (hg : Gl X x) (ha : PA X (e :: es) t)
    (hdb : (x == ("__debug__" : Str)) = false := by decide) (he : starEach (e :: es) X.env = (false, eval e X.env) :: starEach es X.env := by rfl) (hpl : (backTo pos (starEach es X.env)).any (·.1) = false := by rfl) :
    PE X (.Call (.Name x p) (e :: es) [] pos) (tCall sp dvs L2.E0 t) := by
  obtain ⟨f, fd, ps, ds, F, hm, kp, b, hd⟩ := c.ex
  exact pe_call F (hr.mono hk) hg hm kp b hd L2.pass0 ha hdb he hpl
end
section
variable {P : Program} {w : World} {K : PySem.W.Frag} {mg : Str → Option Value} {base : Heap}
theorem calD_of {x : Str} {st : Stmt} {N ps : List Str} {k : Nat} {sp : Sp} {dvs : List V} (F : AtD K mg x st dvs []) (S : FnScope N ps (defScope st)) (len : ∀ vs H Q E, sp vs H Q E → vs.length = ps.length)
    (hbody : ∀ (f : Addr) (cdv : Value) (A : Around) (outer : List Env) (s : Shared) (H : Hp) (vs : List V) (Q : VK) (E : XK), Room k (A.deeper (envOfC x (defScope st) s.heap.objs.size f cdv)) → sp vs H Q E →
      ∃ t, PSs (cxOf L2.CX0 P w K mg base N x (defScope st) f cdv A outer s H E).nox (defBody st) t ∧ t { nx := fun _ H' => Q .non H', rt := Q } (start N vs) H) (n j : Nat) (hd : dvs ≠ []) (hn : n + (dvs.length - j) = ps.length)
    (hb : ∀ (T : Addr) (kV doc pm : Value) (an : Option Addr) (cdv ct : Value) (us its : List Value), us.length = n → its.length = dvs.length →
      ∃ k, bindArgs (PySem.W.fnOf x x (defArgs st) (defBody st) (defScope st) (.ref T) kV doc pm an cdv ct) ⟨us, []⟩ = seqItems? (.ref T) >>= k ∧ k (some its.toArray) = pure (ps.zip (us ++ its.drop j))) : CalD P w K mg base (k + 1) x sp (dvs.drop j) := by
  obtain ⟨f, fd, F, m⟩ := F.ex
  obtain ⟨ds, hv, b⟩ := F.binds1 n j hd hn hb
  refine ⟨f, fd, ps, ds, F.ok S len fun cdv A outer s H vs Q E hr hsp => ?_, m, F.kp, b, hv⟩
  obtain ⟨t, h, q⟩ := hbody f cdv A outer s H vs Q E hr hsp
  exact ⟨t, h.nox, q⟩
end

/-! ### readings, step by step -/
section
variable {K : PySem.W.Frag} {σ : L2.St} {H : Hp} {Q : VK} {QB : Bool → Hp → Prop} {QA : List V → Hp → Prop} {v x y : V} {i j : Nat} {ta tb te tc : TE} {tl : TA} {r r' : R2} {D : Ends} {t u c : TT} {s1 s2 : TS} {a : Addr}
theorem r_var (h : σ[i]? = some (some v)) (q : Q v H) : tVar i σ H Q := ⟨v, h, q⟩
theorem r_c (q : Q v H) : tC v σ H Q := q
theorem r_op (q : ta σ H fun x H1 => tb σ H1 fun y H2 => r x y H2 Q) : tOp r ta tb σ H Q := q
theorem r_un {ru : V → Hp → VK → Prop} (q : ta σ H fun x H1 => ru x H1 Q) : tUn ru ta σ H Q := q
theorem r_nil (q : QA [] H) : tNil σ H QA := q
theorem r_cons (q : te σ H fun x H1 => tl σ H1 fun xs H2 => QA (x :: xs) H2) : tCons te tl σ H QA := q
theorem r_lst (q : tl σ H fun xs H1 => xs.length ≤ sizeLine ∧ ∀ p, H1 p = none → Q (.ref p) (upd H1 p (.lst xs))) : tLst tl σ H Q := q
theorem r_tup (q : tl σ H fun xs H1 => xs.length ≤ sizeLine ∧ ∀ p, H1 p = none → Q (.ref p) (upd H1 p (.tup xs))) : tTup tl σ H Q := q
theorem r_cb {rc : List V → Hp → VK → Prop} (q : tl σ H fun vs H1 => rc vs H1 Q) : tCB rc tl σ H Q := q
theorem r_call {sp : Sp} {dvs : List V} {E : XK} (q : tl σ H fun vs H1 => sp (vs ++ dvs) H1 Q E) : tCall sp dvs E tl σ H Q := q
theorem r_test (q : te σ H fun x H' => ∃ k, x = .bl k ∧ QB k H') : tTest te σ H QB := q
theorem r_B (q : te σ H fun x H' => ∃ k, x = .bl k ∧ QB k H') : tB te σ H QB := q
theorem r_bl {b : Bool} {QC : Bool → Prop} (q : QC b) : ∃ k, V.bl b = .bl k ∧ QC k := ⟨b, rfl, q⟩
theorem r_and (q : t σ H fun c H1 => if c = true then u σ H1 QB else QB false H1) : tAnd t u σ H QB := q
theorem r_or (q : t σ H fun c H1 => if c = true then QB true H1 else u σ H1 QB) : tOr t u σ H QB := q
theorem r_not (q : t σ H fun c H1 => QB (!c) H1) : tNot t σ H QB := q
theorem r_andV (q : ta σ H fun x H1 => ∃ c, x = .bl c ∧ if c = true then tb σ H1 Q else Q (.bl false) H1) : tAndV ta tb σ H Q := q
theorem r_orV (q : ta σ H fun x H1 => ∃ c, x = .bl c ∧ if c = true then Q (.bl true) H1 else tb σ H1 Q) : tOrV ta tb σ H Q := q
theorem r_notV (q : ta σ H fun x H1 => ∃ c, x = .bl c ∧ Q (.bl (!c)) H1) : tNotV ta σ H Q := q
theorem r_if (q : t σ H fun c H1 => if c = true then ta σ H1 Q else tb σ H1 Q) : tIf t ta tb σ H Q := q
theorem r_chain (q : ta σ H fun x H1 => tb σ H1 fun y H2 => r x y H2 fun z H3 => ∃ k, z = .bl k ∧ (if k = true then tc σ H3 fun w' H4 => r' y w' H4 Q else Q (.bl false) H3)) : tChain r r' ta tb tc σ H Q := q
theorem r_sl {rs : V → Option Int → Option Int → Hp → VK → Prop} {tlo thi : TO} (q : te σ H fun x H1 => tlo σ H1 fun l H2 => thi σ H2 fun u H3 => rs x l u H3 Q) : tSl rs te tlo thi σ H Q := q
theorem r_nopart {QO : Option Int → Hp → Prop} (q : QO none H) : tNoPart σ H QO := q
theorem r_part {QO : Option Int → Hp → Prop} (q : te σ H fun x H1 => ∃ i, x = .int i ∧ QO (some i) H1) : tPart te σ H QO := q
theorem r_m1 {rm : V → List V → Hp → VK → Prop} (q : ta σ H fun x H1 => (∃ a, x = .str a) ∧ tb σ H1 fun y H2 => rm x [y] H2 Q) : tM1 rm ta tb σ H Q := q
theorem r_bm {T : String} {rm : V → List V → Hp → VK → Prop} (q : ta σ H fun x H1 => tyV K T x H1 ∧ tl σ H1 fun xs H2 => rm x xs H2 Q) : tBM K T rm ta tl σ H Q := q
theorem r_next (q : D.nx σ H) : tNext D σ H := q
theorem r_seq (q : s1 { D with nx := s2 D } σ H) : tSeq s1 s2 D σ H := q
theorem r_asg (q : te σ H fun x H1 => D.nx (σ.set i (some x)) H1) : tAsg te (gName i) D σ H := q
theorem r_asgS {rs : V → V → V → Hp → (Hp → Prop) → Prop} (q : te σ H fun x H1 => ta σ H1 fun o H2 => tb σ H2 fun ix H3 => rs o ix x H3 fun H4 => D.nx σ H4) : tAsg te (gSub ta tb rs) D σ H := q
theorem r_par (q : tl σ H fun vs H1 => ∃ v w, vs = [v, w] ∧ D.nx ((σ.set i (some v)).set j (some w)) H1) : tPar i j tl D σ H := q
theorem r_ret (q : te σ H D.rt) : tRet te D σ H := q
theorem r_drop (q : te σ H fun _ H1 => D.nx σ H1) : tDrop te D σ H := q
theorem r_ifS (q : c σ H fun b H1 => if b = true then s1 D σ H1 else s2 D σ H1) : tIfS c s1 s2 D σ H := q
theorem r_brk (q : D.bk σ H) : tBreak D σ H := q
theorem r_cont (q : D.ct σ H) : tCont D σ H := q
/-! values -/
theorem r_I0 {g : Int → Int → V} {i j : Int} (q : Q (g i j) H) : rI0 g (.int i) (.int j) H Q := ⟨i, j, rfl, rfl, q⟩
theorem r_I {C : Int → Int → Prop} {g : Int → Int → V} {i j : Int} (c : C i j) (q : Q (g i j) H) : rI C g (.int i) (.int j) H Q := ⟨i, j, rfl, rfl, c, q⟩
theorem r_U {g : Int → V} {i : Int} (q : Q (g i) H) : rU g (.int i) H Q := ⟨i, rfl, q⟩
theorem r_addI {i j : Int} (q : Q (.int (i + j)) H) : rAddA K (.int i) (.int j) H Q := .inl ⟨i, j, rfl, rfl, q⟩
theorem r_addS {i j : Str} (h : i.length + j.length ≤ sizeLine) (q : Q (.str (i ++ j)) H) : rAddA K (.str i) (.str j) H Q := .inr (.inl ⟨i, j, rfl, rfl, h, q⟩)
theorem r_addL {p q : Addr} {xs ys : List V} (h1 : H p = some (.lst xs)) (h2 : H q = some (.lst ys)) (hl : xs.length + ys.length ≤ sizeLine) (k : ∀ l, H l = none → Q (.ref l) (upd H l (.lst (xs ++ ys)))) : rAddA K (.ref p) (.ref q) H Q :=
  .inr (.inr (.inl ⟨p, q, xs, ys, rfl, rfl, h1, h2, hl, k⟩))
theorem r_mulS {z : Str} {n : Int} (c : MulOk z n) (q : Q (.str (Txt.mul z n)) H) : rMulA (.str z) (.int n) H Q := .inr (.inr ⟨z, n, rfl, rfl, c, q⟩)
theorem r_mulL {p : Addr} {n : Int} {xs : List V} (h : H p = some (.lst xs)) (h1 : 0 ≤ n) (h2 : n < 2 ^ 62) (h3 : xs.length * n.toNat ≤ sizeLine) (q : ∀ l, H l = none → Q (.ref l) (upd H l (.lst (List.replicate n.toNat xs).flatten))) : rMulA (.ref p) (.int n) H Q :=
  .inr (.inl ⟨p, n, xs, rfl, rfl, h, by omega, by omega, h3, q⟩)
theorem r_mulI {i j : Int} (c : CMul i j) (q : Q (.int (i * j)) H) : rMulA (.int i) (.int j) H Q := .inl ⟨i, j, rfl, rfl, c, q⟩
theorem r_lenS {z : Str} (h : z.length ≤ sizeLine) (q : Q (.int (z.length : Nat)) H) : rLenA K [.str z] H Q := ⟨_, _, rfl, ⟨h, rfl⟩, q⟩
theorem r_lenL {p : Addr} {xs : List V} (h : SqL K H p xs) (q : Q (.int (xs.length : Nat)) H) : rLenA K [.ref p] H Q := ⟨_, _, rfl, .inl ⟨_, h, rfl⟩, q⟩
theorem r_lenT {p : Addr} {xs : List V} (h : SqT K H p xs) (q : Q (.int (xs.length : Nat)) H) : rLenA K [.ref p] H Q := ⟨_, _, rfl, .inr ⟨_, h, rfl⟩, q⟩
theorem r_abs {i : Int} (q : Q (.int (if i < 0 then -i else i)) H) : rAbsA [.int i] H Q := ⟨i, rfl, q⟩
theorem r_intI {i : Int} (q : Q (.int i) H) : rIntA [.int i] H Q := .inl ⟨i, rfl, q⟩
theorem r_max2 {i j : Int} (q : Q (.int (if j > i then j else i)) H) : rMax2A [.int i, .int j] H Q := ⟨i, j, rfl, q⟩
theorem r_min2 {i j : Int} (q : Q (.int (if j < i then j else i)) H) : rMin2A [.int i, .int j] H Q := ⟨i, j, rfl, q⟩
theorem r_eqS (h : scal x y = true) (q : Q (.bl (decide (x = y))) H) : rEqA K x y H Q := .inl ⟨h, q⟩
theorem r_neS (h : scal x y = true) (q : Q (.bl (!decide (x = y))) H) : rNeA K x y H Q := .inl ⟨h, q⟩
theorem r_eqD {d e : PyData} (h1 : Dp K H x d) (h2 : Dp K H y e) (s1 : SeqAt.shaped d = true) (s2 : SeqAt.shaped e = true) (q : Q (.bl (PyData.eqv d e)) H) : rEqA K x y H Q := .inr ⟨d, e, h1, h2, s1, s2, q⟩
theorem r_neD {d e : PyData} (h1 : Dp K H x d) (h2 : Dp K H y e) (s1 : SeqAt.shaped d = true) (s2 : SeqAt.shaped e = true) (q : Q (.bl (!PyData.eqv d e)) H) : rNeA K x y H Q := .inr ⟨d, e, h1, h2, s1, s2, q⟩
theorem r_ltI {i j : Int} (q : Q (.bl (decide (i < j))) H) : rLtA (.int i) (.int j) H Q := .inl ⟨i, j, rfl, rfl, q⟩
theorem r_leI {i j : Int} (q : Q (.bl (decide (i ≤ j))) H) : rLeA (.int i) (.int j) H Q := ⟨i, j, rfl, rfl, q⟩
theorem r_gtI {i j : Int} (q : Q (.bl (decide (j < i))) H) : rGtA (.int i) (.int j) H Q := ⟨i, j, rfl, rfl, q⟩
theorem r_geI {i j : Int} (q : Q (.bl (decide (j ≤ i))) H) : rGeA (.int i) (.int j) H Q := ⟨i, j, rfl, rfl, q⟩
theorem r_isN (q : Q (.bl (decide (x = .non))) H) : rIsA x .non H Q := .inl ⟨rfl, q⟩
theorem r_isN_non (q : Q (.bl true) H) : rIsA .non .non H Q := .inl ⟨rfl, q⟩
theorem r_isnotN_non (q : Q (.bl false) H) : rIsNotA .non .non H Q := .inl ⟨rfl, q⟩
theorem r_isN_int {i : Int} (q : Q (.bl false) H) : rIsA (.int i) .non H Q := .inl ⟨rfl, q⟩
theorem r_isnotN_int {i : Int} (q : Q (.bl true) H) : rIsNotA (.int i) .non H Q := .inl ⟨rfl, q⟩
theorem r_isN_str {z : Str} (q : Q (.bl false) H) : rIsA (.str z) .non H Q := .inl ⟨rfl, q⟩
theorem r_isnotN_str {z : Str} (q : Q (.bl true) H) : rIsNotA (.str z) .non H Q := .inl ⟨rfl, q⟩
theorem r_isN_bl {b : Bool} (q : Q (.bl false) H) : rIsA (.bl b) .non H Q := .inl ⟨rfl, q⟩
theorem r_isnotN_bl {b : Bool} (q : Q (.bl true) H) : rIsNotA (.bl b) .non H Q := .inl ⟨rfl, q⟩
theorem r_isN_ref {p : Addr} (q : Q (.bl false) H) : rIsA (.ref p) .non H Q := .inl ⟨rfl, q⟩
theorem r_isnotN_ref {p : Addr} (q : Q (.bl true) H) : rIsNotA (.ref p) .non H Q := .inl ⟨rfl, q⟩
theorem r_isB {a b : Bool} (q : Q (.bl (decide (a = b))) H) : rIsA (.bl a) (.bl b) H Q := .inr ⟨a, b, rfl, rfl, q⟩
theorem r_isnotN (q : Q (.bl (!decide (x = .non))) H) : rIsNotA x .non H Q := .inl ⟨rfl, q⟩
theorem r_isnotB {a b : Bool} (q : Q (.bl (!decide (a = b))) H) : rIsNotA (.bl a) (.bl b) H Q := .inr ⟨a, b, rfl, rfl, q⟩
theorem r_inS {c : Nat} {z : Str} (q : Q (.bl (decide (c ∈ z.cps.toList))) H) : rInA K (.str ⟨#[c]⟩) (.str z) H Q := .inl ⟨c, z, rfl, rfl, q⟩
theorem r_ixL {p : Addr} {xs : List V} {i : Int} (h : SqL K H p xs) (ha : atI xs i = some v) (q : Q v H) : rIx K (.ref p) (.int i) H Q := .inl ⟨p, xs, i, v, rfl, rfl, h, ha, q⟩
theorem r_ixT {p : Addr} {xs : List V} {i : Int} (h : SqT K H p xs) (ha : atI xs i = some v) (q : Q v H) : rIx K (.ref p) (.int i) H Q := .inr (.inl ⟨p, xs, i, v, rfl, rfl, h, ha, q⟩)
theorem r_ixS {z : Str} {i : Int} {c : Nat} (h : z.length ≤ sizeLine) (ha : atI z.cps.toList i = some c) (q : Q (.str ⟨#[c]⟩) H) : rIx K (.str z) (.int i) H Q := .inr (.inr ⟨z, i, c, rfl, rfl, h, ha, q⟩)
theorem r_setL {p : Addr} {xs : List V} {k : Int} {j : Nat} {QH : Hp → Prop} (h : H p = some (.lst xs)) (hj : ixN xs.length k = some j) (q : QH (upd H p (.lst (xs.set j v)))) : rSetL (.ref p) (.int k) v H QH := ⟨p, xs, k, j, rfl, rfl, h, hj, q⟩
theorem r_intO {i : Int} {QC : Int → Prop} (q : QC i) : ∃ k, V.int i = .int k ∧ QC k := ⟨i, rfl, q⟩
theorem r_two {v w : V} {QC : V → V → Prop} (q : QC v w) : ∃ v1 w1, [v, w] = [v1, w1] ∧ QC v1 w1 := ⟨v, w, rfl, q⟩
theorem r_slS {z : Str} {lo hi : Option Int} (h : z.length ≤ sizeLine) (q : Q (.str (cutS z lo hi)) H) : rSlA3 K (.str z) lo hi H Q := .inl ⟨z, rfl, h, q⟩
theorem r_slL {p : Addr} {xs : List V} {lo hi : Option Int} (h : SqL K H p xs) (q : ∀ l, H l = none → Q (.ref l) (upd H l (.lst (cutV xs lo hi)))) : rSlA3 K (.ref p) lo hi H Q := .inr ⟨p, xs, rfl, h, q⟩
theorem r_app {p : Addr} {xs : List V} (h : H p = some (.lst xs)) (hl : xs.length < sizeLine) (q : Q .non (upd H p (.lst (xs ++ [y])))) : rAppend (.ref p) [y] H Q := ⟨p, xs, y, rfl, rfl, h, hl, q⟩
theorem r_tyL {p : Addr} {xs : List V} {R : Prop} (h : SqL K H p xs) (q : R) : tyV K "list" (.ref p) H ∧ R := ⟨.inl ⟨rfl, _, h⟩, q⟩
end

theorem iteD {p : Prop} {dp : Decidable p} {A B : Prop} (h1 : p → A) (h2 : ¬ p → B) : if decide p = true then A else B := by
  by_cases h : p
  · rw [if_pos (decide_eq_true h)]
    exact h1 h
  · rw [if_neg (by simp [h])]
    exact h2 h
theorem iteND {p : Prop} {dp : Decidable p} {A B : Prop} (h1 : ¬ p → A) (h2 : p → B) : if (!decide p) = true then A else B := by
  by_cases h : p
  · rw [if_neg (by simp [h])]
    exact h2 h
  · rw [if_pos (by simp [h])]
    exact h1 h
theorem iteB {c : Bool} {A B : Prop} (h1 : c = true → A) (h2 : c = false → B) : if c = true then A else B := by
  cases c with
  | true => rw [if_pos rfl]; exact h1 rfl
  | false => rw [if_neg Bool.false_ne_true]; exact h2 rfl
theorem iteNB {c : Bool} {A B : Prop} (h1 : c = false → A) (h2 : c = true → B) : if (!c) = true then A else B := by
  cases c with
  | true => exact h2 rfl
  | false => exact h1 rfl
/-! ### loops -/
section
variable {K : PySem.W.Frag} {σ : L2.St} {H : Hp} {D : Ends} {wi : TI} {g : TG} {tb : TS} {ta : TA} {te : TE}
theorem r_for (q : wi σ H fun J H1 => ∃ W : Nat → Nat → L2.St → Hp → Prop, (∃ m, W 0 m σ H1) ∧ ∀ i m σ H, W i m σ H →
      (J.stop i H ∧ D.nx σ H) ∨ (J.go i H ∧ ∃ N : L2.St → Hp → Prop, (∀ σ' H', N σ' H' → ∃ m', m' < m ∧ W (i + 1) m' σ' H') ∧ ∀ x H', J.yld i H x H' → g x σ H' fun σ2 H2 => tb { D with nx := N, ct := N, bk := D.nx } σ2 H2)) : tFor wi g tb D σ H := q
theorem r_rng1 {R : It → Hp → Prop} (q : ta σ H fun vs H1 => ∃ j : Int, vs = [.int j] ∧ -(2 ^ 62) ≤ j ∧ j < 2 ^ 62 ∧ R (Itr 0 j.toNat) H1) : iRng1 ta σ H R := q
theorem r_iAny {R : It → Hp → Prop} (q : te σ H fun x H1 => (∃ a, x = .ref a ∧ (∃ xs, SqL K H1 a xs) ∧ R (Itl K a) H1) ∨ (∃ a, x = .ref a ∧ (∃ xs, SqT K H1 a xs) ∧ R (Itt K a) H1) ∨ (∃ z, x = .str z ∧ R (Its z) H1)) : iAny K te σ H R := q
theorem r_iList {R : It → Hp → Prop} (q : te σ H fun x H1 => ∃ a, x = .ref a ∧ (∃ xs, SqL K H1 a xs) ∧ R (Itl K a) H1) : iList K te σ H R := q
theorem r_lc {tt : TT} {vs : List Nat} {Q : VK} (q : wi σ H fun J H1 => ∀ D, H1 D = none → ∃ W : Nat → Nat → Hp → Prop, (∃ m, W 0 m (upd H1 D (.lst []))) ∧ ∀ i m H, W i m H →
  (J.stop i H ∧ Q (.ref D) H) ∨ (J.go i H ∧ ∃ Nx : Hp → Prop, (∀ H', Nx H' → ∃ m', m' < m ∧ W (i + 1) m' H') ∧ ∀ x H', J.yld i H x H' → g x (wipe σ vs) H' fun σ2 H2 => wipe σ2 vs = wipe σ vs ∧ tt σ2 H2 fun b H3 =>
    if b = true then te σ2 H3 fun y H4 => ∃ acc, H4 D = some (.lst acc) ∧ acc.length < sizeLine ∧ Nx (upd H4 D (.lst (acc ++ [y]))) else Nx H3)) : tLc wi g tt te vs σ H Q := q
theorem r_yes {QB : Bool → Hp → Prop} (q : QB true H) : tYes σ H QB := q
theorem r_gN {i : Nat} {v : V} {R : L2.St → Hp → Prop} (q : R (σ.set i (some v)) H) : gName i v σ H R := q
end

/-! ### a comprehension whose elements only read (and lay new things) -/
theorem lc_pure {J : It} {n : Nat} {G : Hp → Prop} {Y : Nat → Hp → V → Hp → Prop} (w : L2.Walk J n G Y) {te : TE} {j : Nat} {vs : List Nat} {σ : L2.St} {H1 : Hp} {Qd : Hp → Prop} {D : Addr} (hD : H1 D = none) (it f : Nat → V)
    (hy : ∀ i H x H', i < n → G H → Y i H x H' → H' = H ∧ x = it i) (hG : ∀ H', Evl.Ex H1 H' → G H') (hw : ∀ x, wipe ((wipe σ vs).set j (some x)) vs = wipe σ vs) (hn : n ≤ 1000000)
    (hel : ∀ i, i < n → ∀ H', Evl.Ex H1 H' → ∀ Q' : VK, (∀ H'', Evl.Ex H' H'' → Q' (f i) H'') → te ((wipe σ vs).set j (some (it i))) H' Q')
    (q : ∀ H', Evl.Ex H1 H' → H' D = some (.lst ((List.range n).map f)) → Qd H') :
    ∃ W : Nat → Nat → Hp → Prop, (∃ m, W 0 m (upd H1 D (.lst []))) ∧ ∀ i m H, W i m H →
      (J.stop i H ∧ Qd H) ∨ (J.go i H ∧ ∃ Nx : Hp → Prop, (∀ H', Nx H' → ∃ m', m' < m ∧ W (i + 1) m' H') ∧ ∀ x H', J.yld i H x H' → gName j x (wipe σ vs) H' fun σ2 H2 => wipe σ2 vs = wipe σ vs ∧ tYes σ2 H2 fun b H3 =>
        if b = true then te σ2 H3 fun y H4 => ∃ acc, H4 D = some (.lst acc) ∧ acc.length < sizeLine ∧ Nx (upd H4 D (.lst (acc ++ [y]))) else Nx H3) := by
  refine lc_it w (fun i H' => Evl.Ex H1 H' ∧ H' D = some (.lst ((List.range i).map f))) ⟨Evl.Ex.new hD, upd_same⟩ (fun i H' _ p => hG H' p.1) ?_ (fun H' p => q H' p.1 p.2)
  rintro i x H H' hi ⟨e1, e2⟩ hyy
  obtain ⟨rfl, rfl⟩ := hy i H x H' hi (hG H e1) hyy
  refine ⟨hw _, r_yes (iteT ?_)⟩
  refine hel i hi _ e1 _ fun H2 e3 => ⟨_, e3 _ _ e2, ?_, Evl.Ex.mut (e1.trans e3) hD, ?_⟩
  · rw [List.length_map, List.length_range, sizeLine_eq]
    omega
  · rw [upd_same, List.range_succ, List.map_append]
    rfl
/-- over a text -/
theorem lc_str {z : Str} {te : TE} {j : Nat} {vs : List Nat} {σ : L2.St} {H1 : Hp} {Qd : Hp → Prop} {D : Addr} (hD : H1 D = none) (f : Nat → V) (hw : ∀ x, wipe ((wipe σ vs).set j (some x)) vs = wipe σ vs) (hn : z.length ≤ 1000000)
    (hel : ∀ c, c ∈ z.cps.toList → ∀ H', Evl.Ex H1 H' → ∀ Q' : VK, (∀ H'', Evl.Ex H' H'' → Q' (f c) H'') → te ((wipe σ vs).set j (some (.str ⟨#[c]⟩))) H' Q')
    (q : ∀ H', Evl.Ex H1 H' → H' D = some (.lst (z.cps.toList.map f)) → Qd H') :
    ∃ W : Nat → Nat → Hp → Prop, (∃ m, W 0 m (upd H1 D (.lst []))) ∧ ∀ i m H, W i m H →
      ((Its z).stop i H ∧ Qd H) ∨ ((Its z).go i H ∧ ∃ Nx : Hp → Prop, (∀ H', Nx H' → ∃ m', m' < m ∧ W (i + 1) m' H') ∧ ∀ x H', (Its z).yld i H x H' → gName j x (wipe σ vs) H' fun σ2 H2 => wipe σ2 vs = wipe σ vs ∧ tYes σ2 H2 fun b H3 =>
        if b = true then te σ2 H3 fun y H4 => ∃ acc, H4 D = some (.lst acc) ∧ acc.length < sizeLine ∧ Nx (upd H4 D (.lst (acc ++ [y]))) else Nx H3) := by
  have sz : z.cps.size = z.length := rfl
  have key : ∀ i, i < z.cps.size → z.cps.getD i 0 ∈ z.cps.toList := fun i hi => by
    have : z.cps.getD i 0 = z.cps[i] := by simp [Array.getD, hi]
    rw [this]
    exact Array.getElem_mem_toList hi
  refine lc_pure walk_str hD (fun i => .str ⟨#[z.cps.getD i 0]⟩) (fun i => f (z.cps.getD i 0)) ?_ (fun _ _ => trivial) hw (by omega) (fun i hi => hel _ (key i hi)) (fun H' e1 e3 => q H' e1 ?_)
  · rintro i H x H' hi _ ⟨e, c, hc, rfl⟩
    refine ⟨e, ?_⟩
    simp [Array.getD, hi] at hc ⊢
    exact hc.symm
  · rw [e3]
    congr 2
    refine List.ext_getElem (by simp) fun i h1 h2 => ?_
    simp at h1
    simp [Array.getD, h1]
/-- over a list or tuple -/
theorem lc_seq {K : PySem.W.Frag} {a : Addr} {xs : List V} {te : TE} {j : Nat} {vs : List Nat} {σ : L2.St} {H1 : Hp} {Qd : Hp → Prop} {D : Addr} (hD : H1 D = none) (f : V → V) (hs : SqL K H1 a xs) (hw : ∀ x, wipe ((wipe σ vs).set j (some x)) vs = wipe σ vs) (hn : xs.length ≤ 1000000)
    (hel : ∀ v, v ∈ xs → ∀ H', Evl.Ex H1 H' → ∀ Q' : VK, (∀ H'', Evl.Ex H' H'' → Q' (f v) H'') → te ((wipe σ vs).set j (some v)) H' Q')
    (q : ∀ H', Evl.Ex H1 H' → H' D = some (.lst (xs.map f)) → Qd H') :
    ∃ W : Nat → Nat → Hp → Prop, (∃ m, W 0 m (upd H1 D (.lst []))) ∧ ∀ i m H, W i m H →
      ((Itl K a).stop i H ∧ Qd H) ∨ ((Itl K a).go i H ∧ ∃ Nx : Hp → Prop, (∀ H', Nx H' → ∃ m', m' < m ∧ W (i + 1) m' H') ∧ ∀ x H', (Itl K a).yld i H x H' → gName j x (wipe σ vs) H' fun σ2 H2 => wipe σ2 vs = wipe σ vs ∧ tYes σ2 H2 fun b H3 =>
        if b = true then te σ2 H3 fun y H4 => ∃ acc, H4 D = some (.lst acc) ∧ acc.length < sizeLine ∧ Nx (upd H4 D (.lst (acc ++ [y]))) else Nx H3) := by
  have key : ∀ i, i < xs.length → xs.getD i .non ∈ xs := fun i hi => by
    rw [List.getD_eq_getElem?_getD, List.getElem?_eq_getElem hi]
    exact List.getElem_mem hi
  refine lc_pure walk_list hD (fun i => xs.getD i .non) (fun i => f (xs.getD i .non)) ?_ (fun _ e => Evl.ex_l e hs) hw (by omega) (fun i hi => hel _ (key i hi)) (fun H' e1 e3 => q H' e1 ?_)
  · rintro i H x H' hi _ ⟨e, hx⟩
    exact ⟨e, by rw [List.getD_eq_getElem?_getD, hx]; rfl⟩
  · rw [e3]
    congr 2
    refine List.ext_getElem (by simp) fun i h1 h2 => ?_
    simp at h1
    simp [List.getElem?_eq_getElem h1]
theorem lc_tupl {K : PySem.W.Frag} {a : Addr} {xs : List V} {te : TE} {j : Nat} {vs : List Nat} {σ : L2.St} {H1 : Hp} {Qd : Hp → Prop} {D : Addr} (hD : H1 D = none) (f : V → V) (hs : SqT K H1 a xs) (hw : ∀ x, wipe ((wipe σ vs).set j (some x)) vs = wipe σ vs) (hn : xs.length ≤ 1000000)
    (hel : ∀ v, v ∈ xs → ∀ H', Evl.Ex H1 H' → ∀ Q' : VK, (∀ H'', Evl.Ex H' H'' → Q' (f v) H'') → te ((wipe σ vs).set j (some v)) H' Q')
    (q : ∀ H', Evl.Ex H1 H' → H' D = some (.lst (xs.map f)) → Qd H') :
    ∃ W : Nat → Nat → Hp → Prop, (∃ m, W 0 m (upd H1 D (.lst []))) ∧ ∀ i m H, W i m H →
      ((Itt K a).stop i H ∧ Qd H) ∨ ((Itt K a).go i H ∧ ∃ Nx : Hp → Prop, (∀ H', Nx H' → ∃ m', m' < m ∧ W (i + 1) m' H') ∧ ∀ x H', (Itt K a).yld i H x H' → gName j x (wipe σ vs) H' fun σ2 H2 => wipe σ2 vs = wipe σ vs ∧ tYes σ2 H2 fun b H3 =>
        if b = true then te σ2 H3 fun y H4 => ∃ acc, H4 D = some (.lst acc) ∧ acc.length < sizeLine ∧ Nx (upd H4 D (.lst (acc ++ [y]))) else Nx H3) := by
  have key : ∀ i, i < xs.length → xs.getD i .non ∈ xs := fun i hi => by
    rw [List.getD_eq_getElem?_getD, List.getElem?_eq_getElem hi]
    exact List.getElem_mem hi
  refine lc_pure walk_tup hD (fun i => xs.getD i .non) (fun i => f (xs.getD i .non)) ?_ (fun _ e => Evl.ex_t e hs) hw (by omega) (fun i hi => hel _ (key i hi)) (fun H' e1 e3 => q H' e1 ?_)
  · rintro i H x H' hi _ ⟨e, hx⟩
    exact ⟨e, by rw [List.getD_eq_getElem?_getD, hx]; rfl⟩
  · rw [e3]
    congr 2
    refine List.ext_getElem (by simp) fun i h1 h2 => ?_
    simp at h1
    simp [List.getElem?_eq_getElem h1]
theorem r_all {K : PySem.W.Frag} {H : Hp} {Q : VK} {D : Addr} {bs : List Bool} (h : H D = some (.lst (bs.map V.bl))) (q : Q (.bl (bs.all id)) H) : rAll K [.ref D] H Q := ⟨D, bs, rfl, SqL.of h, q⟩
theorem r_any {K : PySem.W.Frag} {H : Hp} {Q : VK} {D : Addr} {bs : List Bool} (h : H D = some (.lst (bs.map V.bl))) (q : Q (.bl (bs.any id)) H) : rAny K [.ref D] H Q := ⟨D, bs, rfl, SqL.of h, q⟩

/-! ### the heap without the bag -/
def hid (b : Addr) (H : Hp) : Hp := fun a => if a = b then none else H a
section
variable {b a p : Addr} {H H' : Hp} {o o' : HO}
theorem hid_of (h : H a = some o) (ne : a ≠ b) : hid b H a = some o := by unfold hid; rw [if_neg ne]; exact h
theorem hid_get (h : hid b H a = some o) : H a = some o := by
  unfold hid at h
  by_cases e : a = b
  · rw [if_pos e] at h; cases h
  · rw [if_neg e] at h; exact h
theorem hid_ne (h : hid b H a = some o) : a ≠ b := by
  intro e
  unfold hid at h
  rw [if_pos e] at h
  cases h
theorem hid_bag : hid b (upd H b o) = hid b H := by
  funext a
  unfold hid
  by_cases e : a = b
  · rw [if_pos e, if_pos e]
  · rw [if_neg e, if_neg e, upd_ne e]
theorem hid_up (h : p ≠ b) : hid b (upd H p o) = upd (hid b H) p o := by
  funext a
  unfold hid
  by_cases e : a = b
  · rw [if_pos e, upd_ne (by rw [e]; exact h.symm), if_pos e]
  · by_cases e2 : a = p
    · rw [if_neg e, e2, upd_same, upd_same]
    · rw [if_neg e, upd_ne e2, upd_ne e2, if_neg e]
theorem hid_ex : Evl.Ex (hid b H) H := fun _ _ h => hid_get h
theorem hid_none (h : H p = none) : hid b H p = none := by
  unfold hid
  by_cases e : p = b
  · rw [if_pos e]
  · rw [if_neg e]; exact h
end
def BagL (n : Nat) (l : List V) : Prop := ∃ x y z : Int, l = [.int x, .int y, .int z] ∧ 0 ≤ y ∧ y ≤ 4294967296 ∧ 0 ≤ z ∧ z ≤ (n : Int)
theorem BagL.mono {n m : Nat} {l : List V} (h : BagL n l) (e : n ≤ m) : BagL m l := by
  obtain ⟨x, y, z, rfl, h1, h2, h3, h4⟩ := h
  exact ⟨x, y, z, rfl, h1, h2, h3, by omega⟩
/-- the bag at b, so many draws at most so far -/
def Bag (b : Addr) (n : Nat) (H : Hp) : Prop := ∃ l, H b = some (.lst l) ∧ BagL n l
structure Drw (b : Addr) (n : Nat) (H H' : Hp) : Prop where
  ex : Evl.Ex (hid b H) (hid b H')
  bag : Bag b n H'
theorem Drw.trans {b : Addr} {n m : Nat} {H H1 H2 : Hp} (x : Drw b n H H1) (y : Drw b m H1 H2) : Drw b m H H2 := ⟨x.ex.trans y.ex, y.bag⟩
theorem Bag.mono {b : Addr} {n m : Nat} {H : Hp} (h : Bag b n H) (e : n ≤ m) : Bag b m H := let ⟨l, h1, h2⟩ := h; ⟨l, h1, h2.mono e⟩
theorem Drw.mono {b : Addr} {n m : Nat} {H H' : Hp} (h : Drw b n H H') (e : n ≤ m) : Drw b m H H' := ⟨h.ex, h.bag.mono e⟩
theorem Bag.refl {b : Addr} {n : Nat} {H : Hp} (h : Bag b n H) : Drw b n H H := ⟨Evl.Ex.refl _, h⟩
/-- a new object -/
theorem Bag.new {b p : Addr} {n : Nat} {H : Hp} {o : HO} (h : Bag b n H) (hp : H p = none) : Drw b n H (upd H p o) ∧ hid b (upd H p o) p = some o := by
  obtain ⟨l, h1, h2⟩ := h
  have ne : p ≠ b := (ne_of_none h1 hp).symm
  refine ⟨⟨?_, l, ?_, h2⟩, ?_⟩
  · rw [hid_up ne]
    exact Evl.Ex.new (hid_none hp)
  · rw [upd_ne ne.symm]; exact h1
  · exact hid_of upd_same ne
/-- an object that is not the bag and that H0 did not know is changed -/
theorem Drw.put {b p : Addr} {n : Nat} {H0 H : Hp} {o : HO} (h : Drw b n H0 H) (hp : hid b H0 p = none) (ne : p ≠ b) : Drw b n H0 (upd H p o) := by
  obtain ⟨l, h1, h2⟩ := h.bag
  refine ⟨?_, l, ?_, h2⟩
  · rw [hid_up ne]
    exact Evl.Ex.mut h.ex hp
  · rw [upd_ne ne.symm]; exact h1
theorem Drw.l {K : PySem.W.Frag} {b a : Addr} {n : Nat} {H H' : Hp} {xs : List V} (h : Drw b n H H') (s : SqL K (hid b H) a xs) : SqL K (hid b H') a xs := Evl.ex_l h.ex s
theorem Drw.t {K : PySem.W.Frag} {b a : Addr} {n : Nat} {H H' : Hp} {xs : List V} (h : Drw b n H H') (s : SqT K (hid b H) a xs) : SqT K (hid b H') a xs := Evl.ex_t h.ex s
def SqA (K : PySem.W.Frag) (H : Hp) (a : Addr) (xs : List V) : Prop := SqL K H a xs ∨ SqT K H a xs
theorem SqA.mono {K : PySem.W.Frag} {H H' : Hp} {a : Addr} {xs : List V} (e : Evl.Ex H H') (h : SqA K H a xs) : SqA K H' a xs := by
  rcases h with h | h
  · exact .inl (Evl.ex_l e h)
  · exact .inr (Evl.ex_t e h)
/-- a word of small letters -/
def Word (m : Nat) (z : Str) : Prop := z.length ≤ m ∧ ∀ c ∈ z.cps.toList, 97 ≤ c ∧ c ≤ 122
/-- a class name -/
def Let (c : Nat) : Prop := (97 ≤ c ∧ c ≤ 122) ∨ (65 ≤ c ∧ c ≤ 90)
def ClsN (z : Str) : Prop := ∃ (c : Nat) (r : List Nat), z.cps.toList = c :: r ∧ (65 ≤ c ∧ c ≤ 90) ∧ (∀ d ∈ r, Let d) ∧ r.length ≤ 11
/-! ### isinstance -/
section
variable {K : PySem.W.Frag} {H : Hp} {Q : VK}
theorem ty_lst {a : Addr} {xs : List V} (h : SqL K H a xs) : TyX K H (.ref a) (.type "list") := by
  rcases h with (h | ⟨o, h⟩) | ⟨o, its, n, h1, h2, h3⟩
  · exact .base (.lst h)
  · exact .base (.frz h)
  · exact .kList h1 h2
theorem ty_tup {a : Addr} {xs : List V} (h : SqT K H a xs) : TyX K H (.ref a) (.type "tuple") := by
  rcases h with (h | ⟨o, h⟩) | ⟨o, its, n, h1, h2, h3⟩
  · exact .base (.tup h)
  · exact .fTuple h
  · exact .kTuple h1 h2
theorem r_isi {x : V} {n m : String} {b : Bool} (ty : TyX K H x (.type n)) (h : kitB n m = some b) (q : Q (.bl b) H) : rIsi K [x, .ty m] H Q := ⟨x, .ty m, _, _, b, rfl, .ty m, ty, kit_ty h, q⟩
theorem r_isiLT {x : V} {n : String} {b1 b2 b : Bool} {tp : Addr} (ht : H tp = some (.tup [.ty "list", .ty "tuple"])) (ty : TyX K H x (.type n)) (h1 : kitB n "list" = some b1) (h2 : kitB n "tuple" = some b2) (hb : (b1 || b2) = b) (q : Q (.bl b) H) : rIsiT K [x, .ref tp] H Q := by
  refine ⟨x, tp, _, _, [.type "list", .type "tuple"], b, rfl, ht, .cons (.ty _) (.cons (.ty _) .nil), ty, kitAny_cons (kit_ty h1) (fun e1 => kitAny_cons (kit_ty h2) (fun e2 => ?_) (fun e2 => ?_)) (fun e1 => ?_), q⟩
  · rw [← hb, e1, e2]; exact kitAny_nil
  · rw [← hb, e1, e2]; rfl
  · rw [← hb, e1]; rfl
theorem r_isiLT_non {tp : Addr} (ht : H tp = some (.tup [.ty "list", .ty "tuple"])) (q : Q (.bl false) H) : rIsiT K [.non, .ref tp] H Q := r_isiLT (b1 := false) (b2 := false) ht (TyX.base .non) (by decide +kernel) (by decide +kernel) rfl q
theorem r_isiLT_bl {tp : Addr} (ht : H tp = some (.tup [.ty "list", .ty "tuple"])) {b : Bool} (q : Q (.bl false) H) : rIsiT K [(.bl b), .ref tp] H Q := r_isiLT (b1 := false) (b2 := false) ht (TyX.base (.bl b)) (by decide +kernel) (by decide +kernel) rfl q
theorem r_isiLT_int {tp : Addr} (ht : H tp = some (.tup [.ty "list", .ty "tuple"])) {i : Int} (q : Q (.bl false) H) : rIsiT K [(.int i), .ref tp] H Q := r_isiLT (b1 := false) (b2 := false) ht (TyX.base (.int i)) (by decide +kernel) (by decide +kernel) rfl q
theorem r_isiLT_str {tp : Addr} (ht : H tp = some (.tup [.ty "list", .ty "tuple"])) {z : Str} (q : Q (.bl false) H) : rIsiT K [(.str z), .ref tp] H Q := r_isiLT (b1 := false) (b2 := false) ht (TyX.base (.str z)) (by decide +kernel) (by decide +kernel) rfl q
theorem r_isiLT_lst {tp : Addr} (ht : H tp = some (.tup [.ty "list", .ty "tuple"])) {p : Addr} {xs : List V} (h : SqL K H p xs) (q : Q (.bl true) H) : rIsiT K [(.ref p), .ref tp] H Q := r_isiLT (b1 := true) (b2 := false) ht (ty_lst h) (by decide +kernel) (by decide +kernel) rfl q
theorem r_isiLT_tup {tp : Addr} (ht : H tp = some (.tup [.ty "list", .ty "tuple"])) {p : Addr} {xs : List V} (h : SqT K H p xs) (q : Q (.bl true) H) : rIsiT K [(.ref p), .ref tp] H Q := r_isiLT (b1 := false) (b2 := true) ht (ty_tup h) (by decide +kernel) (by decide +kernel) rfl q
theorem r_isi_non_int (q : Q (.bl false) H) : rIsi K [.non, .ty "int"] H Q := r_isi (TyX.base .non) (by decide +kernel) q
theorem r_isi_non_str (q : Q (.bl false) H) : rIsi K [.non, .ty "str"] H Q := r_isi (TyX.base .non) (by decide +kernel) q
theorem r_isi_non_list (q : Q (.bl false) H) : rIsi K [.non, .ty "list"] H Q := r_isi (TyX.base .non) (by decide +kernel) q
theorem r_isi_non_tuple (q : Q (.bl false) H) : rIsi K [.non, .ty "tuple"] H Q := r_isi (TyX.base .non) (by decide +kernel) q
theorem r_isi_non_bool (q : Q (.bl false) H) : rIsi K [.non, .ty "bool"] H Q := r_isi (TyX.base .non) (by decide +kernel) q
theorem r_isi_bl_int {b : Bool} (q : Q (.bl true) H) : rIsi K [(.bl b), .ty "int"] H Q := r_isi (TyX.base (.bl b)) (by decide +kernel) q
theorem r_isi_bl_str {b : Bool} (q : Q (.bl false) H) : rIsi K [(.bl b), .ty "str"] H Q := r_isi (TyX.base (.bl b)) (by decide +kernel) q
theorem r_isi_bl_list {b : Bool} (q : Q (.bl false) H) : rIsi K [(.bl b), .ty "list"] H Q := r_isi (TyX.base (.bl b)) (by decide +kernel) q
theorem r_isi_bl_tuple {b : Bool} (q : Q (.bl false) H) : rIsi K [(.bl b), .ty "tuple"] H Q := r_isi (TyX.base (.bl b)) (by decide +kernel) q
theorem r_isi_bl_bool {b : Bool} (q : Q (.bl true) H) : rIsi K [(.bl b), .ty "bool"] H Q := r_isi (TyX.base (.bl b)) (by decide +kernel) q
theorem r_isi_int_int {i : Int} (q : Q (.bl true) H) : rIsi K [(.int i), .ty "int"] H Q := r_isi (TyX.base (.int i)) (by decide +kernel) q
theorem r_isi_int_str {i : Int} (q : Q (.bl false) H) : rIsi K [(.int i), .ty "str"] H Q := r_isi (TyX.base (.int i)) (by decide +kernel) q
theorem r_isi_int_list {i : Int} (q : Q (.bl false) H) : rIsi K [(.int i), .ty "list"] H Q := r_isi (TyX.base (.int i)) (by decide +kernel) q
theorem r_isi_int_tuple {i : Int} (q : Q (.bl false) H) : rIsi K [(.int i), .ty "tuple"] H Q := r_isi (TyX.base (.int i)) (by decide +kernel) q
theorem r_isi_int_bool {i : Int} (q : Q (.bl false) H) : rIsi K [(.int i), .ty "bool"] H Q := r_isi (TyX.base (.int i)) (by decide +kernel) q
theorem r_isi_str_int {z : Str} (q : Q (.bl false) H) : rIsi K [(.str z), .ty "int"] H Q := r_isi (TyX.base (.str z)) (by decide +kernel) q
theorem r_isi_str_str {z : Str} (q : Q (.bl true) H) : rIsi K [(.str z), .ty "str"] H Q := r_isi (TyX.base (.str z)) (by decide +kernel) q
theorem r_isi_str_list {z : Str} (q : Q (.bl false) H) : rIsi K [(.str z), .ty "list"] H Q := r_isi (TyX.base (.str z)) (by decide +kernel) q
theorem r_isi_str_tuple {z : Str} (q : Q (.bl false) H) : rIsi K [(.str z), .ty "tuple"] H Q := r_isi (TyX.base (.str z)) (by decide +kernel) q
theorem r_isi_str_bool {z : Str} (q : Q (.bl false) H) : rIsi K [(.str z), .ty "bool"] H Q := r_isi (TyX.base (.str z)) (by decide +kernel) q
theorem r_isi_lst_int {p : Addr} {xs : List V} (h : SqL K H p xs) (q : Q (.bl false) H) : rIsi K [(.ref p), .ty "int"] H Q := r_isi (ty_lst h) (by decide +kernel) q
theorem r_isi_lst_str {p : Addr} {xs : List V} (h : SqL K H p xs) (q : Q (.bl false) H) : rIsi K [(.ref p), .ty "str"] H Q := r_isi (ty_lst h) (by decide +kernel) q
theorem r_isi_lst_list {p : Addr} {xs : List V} (h : SqL K H p xs) (q : Q (.bl true) H) : rIsi K [(.ref p), .ty "list"] H Q := r_isi (ty_lst h) (by decide +kernel) q
theorem r_isi_lst_tuple {p : Addr} {xs : List V} (h : SqL K H p xs) (q : Q (.bl false) H) : rIsi K [(.ref p), .ty "tuple"] H Q := r_isi (ty_lst h) (by decide +kernel) q
theorem r_isi_lst_bool {p : Addr} {xs : List V} (h : SqL K H p xs) (q : Q (.bl false) H) : rIsi K [(.ref p), .ty "bool"] H Q := r_isi (ty_lst h) (by decide +kernel) q
theorem r_isi_tup_int {p : Addr} {xs : List V} (h : SqT K H p xs) (q : Q (.bl false) H) : rIsi K [(.ref p), .ty "int"] H Q := r_isi (ty_tup h) (by decide +kernel) q
theorem r_isi_tup_str {p : Addr} {xs : List V} (h : SqT K H p xs) (q : Q (.bl false) H) : rIsi K [(.ref p), .ty "str"] H Q := r_isi (ty_tup h) (by decide +kernel) q
theorem r_isi_tup_list {p : Addr} {xs : List V} (h : SqT K H p xs) (q : Q (.bl false) H) : rIsi K [(.ref p), .ty "list"] H Q := r_isi (ty_tup h) (by decide +kernel) q
theorem r_isi_tup_tuple {p : Addr} {xs : List V} (h : SqT K H p xs) (q : Q (.bl true) H) : rIsi K [(.ref p), .ty "tuple"] H Q := r_isi (ty_tup h) (by decide +kernel) q
theorem r_isi_tup_bool {p : Addr} {xs : List V} (h : SqT K H p xs) (q : Q (.bl false) H) : rIsi K [(.ref p), .ty "bool"] H Q := r_isi (ty_tup h) (by decide +kernel) q
end
/-! ### plain values as data -/
def datV : V → PyData
  | .non => .none
  | .bl b => .bool b
  | .int i => .int i
  | .str z => .str z
  | _ => .none
def Sc : V → Prop
  | .non => True
  | .bl _ => True
  | .int _ => True
  | .str z => PyData.strOk z = true
  | _ => False
theorem dp_sc {K : PySem.W.Frag} {H : Hp} {v : V} (h : Sc v) : Dp K H v (datV v) := by
  cases v with
  | non => exact .non
  | bl b => exact .bl b
  | int i => exact .int i
  | str z => exact .str z
  | _ => exact h.elim
theorem dpAll_sc {K : PySem.W.Frag} {H : Hp} : ∀ {xs : List V}, (∀ v ∈ xs, Sc v) → DpAll K H xs (xs.map datV)
  | [], _ => .nil
  | v :: r, h => .cons (dp_sc (h v (List.mem_cons_self ..))) (dpAll_sc fun u hu => h u (List.mem_cons_of_mem _ hu))
theorem canLay_sc {v : V} (h : Sc v) : (datV v).canLay0 = true ∧ (datV v).depth = 0 := by
  cases v with
  | str z => exact ⟨by simpa [datV, PyData.canLay0] using (show PyData.strOk z = true from h), by simp [datV, PyData.depth]⟩
  | non => exact ⟨by simp [datV, PyData.canLay0], by simp [datV, PyData.depth]⟩
  | bl z => exact ⟨by simp [datV, PyData.canLay0], by simp [datV, PyData.depth]⟩
  | int z => exact ⟨by simp [datV, PyData.canLay0], by simp [datV, PyData.depth]⟩
  | _ => exact h.elim
theorem canLayAll_sc : ∀ {xs : List V}, (∀ v ∈ xs, Sc v) → PyData.canLayAll0 (xs.map datV) = true ∧ PyData.depthAll (xs.map datV) = 0
  | [], _ => ⟨by simp [PyData.canLayAll0], by simp [PyData.depthAll]⟩
  | v :: r, h => by
    have h1 := canLay_sc (h v (List.mem_cons_self ..))
    have h2 := canLayAll_sc (xs := r) fun u hu => h u (List.mem_cons_of_mem _ hu)
    exact ⟨by simp [PyData.canLayAll0, h1.1, h2.1], by simp [PyData.depthAll, h1.2, h2.2]⟩
theorem shaped_list {xs : List V} (h : ∀ v ∈ xs, Sc v) : SeqAt.shaped (.list (xs.map datV)) = true := by
  have h2 := canLayAll_sc h
  simp [SeqAt.shaped, PyData.canLay0, PyData.depth, h2.1, h2.2]
theorem shaped_tuple {xs : List V} (h : ∀ v ∈ xs, Sc v) : SeqAt.shaped (.tuple (xs.map datV)) = true := by
  have h2 := canLayAll_sc h
  simp [SeqAt.shaped, PyData.canLay0, PyData.depth, h2.1, h2.2]
theorem eqv_same {d : PyData} (h : SeqAt.shaped d = true) : PyData.eqv d d = true := SeqAt.eqv_refl d (SeqAt.canLay_of_shaped h)
theorem word_ok {m : Nat} {z : Str} (h : Word m z) : PyData.strOk z = true := by
  unfold PyData.strOk
  rw [← Array.all_toList, List.all_eq_true]
  intro c hc
  have := h.2 c hc
  exact decide_eq_true (by omega)
theorem str_ok {z : Str} (h : ∀ c ∈ z.cps.toList, c < 1114112) : PyData.strOk z = true := by
  unfold PyData.strOk
  rw [← Array.all_toList, List.all_eq_true]
  intro c hc
  exact decide_eq_true (h c hc)
theorem cls_ok {z : Str} (h : ClsN z) : PyData.strOk z = true := by
  obtain ⟨c, r, e, h1, h2, _⟩ := h
  refine str_ok fun d hd => ?_
  rw [e] at hd
  rcases List.mem_cons.mp hd with rfl | hd
  · omega
  · rcases h2 d hd with h | h <;> omega
/-- a bag just made: what stood before is what is seen without it -/
theorem hid_start {b : Addr} {H : Hp} {o : HO} (h : H b = none) : hid b (upd H b o) = H := by
  rw [hid_bag]
  funext a
  unfold hid
  by_cases e : a = b
  · rw [if_pos e, e, h]
  · rw [if_neg e]
theorem iteTc {c : Bool} {A B : Prop} (hc : c = true) (h : A) : if c = true then A else B := by rw [if_pos hc]; exact h
theorem iteFc {c : Bool} {A B : Prop} (hc : c = false) (h : B) : if c = true then A else B := by rw [hc, if_neg Bool.false_ne_true]; exact h
theorem iteY {p : Prop} {dp : Decidable p} {A B : Prop} (hc : p) (h : A) : if decide p = true then A else B := by rw [if_pos (decide_eq_true hc)]; exact h
theorem iteN {p : Prop} {dp : Decidable p} {A B : Prop} (hc : ¬ p) (h : B) : if decide p = true then A else B := by rw [if_neg (by simp [hc])]; exact h
theorem iteNY {p : Prop} {dp : Decidable p} {A B : Prop} (hc : p) (h : B) : if (!decide p) = true then A else B := by rw [if_neg (by simp [hc])]; exact h
theorem iteNN {p : Prop} {dp : Decidable p} {A B : Prop} (hc : ¬ p) (h : A) : if (!decide p) = true then A else B := by rw [if_pos (by simp [hc])]; exact h
theorem r_neDF {K : PySem.W.Frag} {H : Hp} {Q : VK} {x y : V} {d : PyData} (h1 : Dp K H x d) (h2 : Dp K H y d) (s : SeqAt.shaped d = true) (q : Q (.bl false) H) : rNeA K x y H Q := .inr ⟨d, d, h1, h2, s, s, by rw [eqv_same s]; exact q⟩
theorem r_eqDT {K : PySem.W.Frag} {H : Hp} {Q : VK} {x y : V} {d : PyData} (h1 : Dp K H x d) (h2 : Dp K H y d) (s : SeqAt.shaped d = true) (q : Q (.bl true) H) : rEqA K x y H Q := .inr ⟨d, d, h1, h2, s, s, by rw [eqv_same s]; exact q⟩
/-- the built-in names that stand -/
structure Bl (mg : Str → Option Value) : Prop where
  len : mg "len" = none
  abs : mg "abs" = none
  max : mg "max" = none
  min : mg "min" = none
  isinstance : mg "isinstance" = none
  range : mg "range" = none
  int : mg "int" = none
  str : mg "str" = none
  list : mg "list" = none
  tuple : mg "tuple" = none
  bool : mg "bool" = none
  dict : mg "dict" = none
  all : mg "all" = none
  any : mg "any" = none
  enumerate : mg "enumerate" = none
  sorted : mg "sorted" = none
  repr : mg "repr" = none
def blNames : List Str := ["len", "abs", "max", "min", "isinstance", "range", "int", "str", "list", "tuple", "bool", "dict", "all", "any", "enumerate", "sorted", "repr"]
/-! ### what is new -/
/-- what H' has at places that H did not have -/
def nov (H H' : Hp) : Hp := fun a => if (H a).isSome = true then none else H' a
theorem nov_get {H H' : Hp} {a : Addr} {o : HO} (h : nov H H' a = some o) : H a = none ∧ H' a = some o := by
  unfold nov at h
  cases e : H a with
  | none => rw [e, if_neg (by simp)] at h; exact ⟨rfl, h⟩
  | some u => rw [e, if_pos (show (some u).isSome = true from rfl)] at h; cases h
theorem nov_of {H H' : Hp} {a : Addr} {o : HO} (h1 : H a = none) (h2 : H' a = some o) : nov H H' a = some o := by
  unfold nov
  rw [h1, if_neg (by simp)]
  exact h2
theorem nov_ex {H H' : Hp} : Evl.Ex (nov H H') H' := fun _ _ h => (nov_get h).2
theorem Bag.some {b : Addr} {n : Nat} {H : Hp} (h : Bag b n H) : H b ≠ none := by
  obtain ⟨l, h1, _⟩ := h
  rw [h1]
  exact fun e => by cases e
theorem Drw.novm {b : Addr} {n : Nat} {H0 H1 H2 : Hp} (r : Drw b n H1 H2) (hb : H0 b ≠ none) : Evl.Ex (nov H0 H1) (nov H0 H2) := fun a o h => by
  obtain ⟨h1, h2⟩ := nov_get h
  have ne : a ≠ b := fun e => hb (by rw [← e]; exact h1)
  exact nov_of h1 (hid_get (r.ex _ _ (hid_of h2 ne)))
theorem Drw.dom {b : Addr} {n : Nat} {H0 H1 : Hp} (r : Drw b n H0 H1) {a : Addr} (h : H1 a = none) : H0 a = none := by
  cases e : H0 a with
  | none => rfl
  | some o =>
    by_cases hb : a = b
    · exact absurd (hb ▸ h) r.bag.some
    · have := hid_get (r.ex _ _ (hid_of e hb))
      rw [h] at this
      cases this
theorem Drw.base {b : Addr} {n : Nat} {H0 H1 H2 : Hp} (r : Drw b n H0 H1) : Evl.Ex (nov H1 H2) (nov H0 H2) := fun a o h => by
  obtain ⟨h1, h2⟩ := nov_get h
  exact nov_of (r.dom h1) h2
theorem Drw.baseL {b L : Addr} {n : Nat} {H0 H1 H2 : Hp} (r : Drw b n H0 H1) (hL : H1 L ≠ none) : Evl.Ex (nov H1 H2) (hid L (nov H0 H2)) := fun a o h => by
  refine hid_of (r.base a o h) fun e => hL ?_
  rw [← e]
  exact (nov_get h).1
theorem nov_hidb {b : Addr} {H H' : Hp} (hb : H b ≠ none) : Evl.Ex (nov H H') (hid b H') := fun a o h => by
  obtain ⟨h1, h2⟩ := nov_get h
  exact hid_of h2 fun e => hb (by rw [← e]; exact h1)
theorem hid_nov_upd {L : Addr} {H H' : Hp} {o : HO} : hid L (nov H (upd H' L o)) = hid L (nov H H') := by
  funext a
  unfold hid nov
  by_cases e : a = L
  · rw [if_pos e, if_pos e]
  · rw [if_neg e, if_neg e, upd_ne e]
theorem hid_mono {L : Addr} {H H' : Hp} (e : Evl.Ex H H') : Evl.Ex (hid L H) (hid L H') := fun a o h => hid_of (e a o (hid_get h)) (hid_ne h)
/-- a comprehension over a range whose elements are draws -/
theorem lc_draw {m : Nat} {b : Addr} {n c : Nat} {H2 : Hp} {L : Addr} {te : TE} {j : Nat} {vs : List Nat} {σ : L2.St} {Qd : Hp → Prop} (hL : H2 L = none) (hb : Bag b n H2) (hm : m ≤ 1000000) (Dat : Hp → V → Prop) (mono : ∀ G G' v, Evl.Ex G G' → Dat G v → Dat G' v)
    (hw : ∀ x, wipe ((wipe σ vs).set j (some x)) vs = wipe σ vs)
    (hel : ∀ i H', i < m → Drw b (n + c * i) H2 H' → ∀ Q' : VK, (∀ v H'', Dat (nov H' H'') v → Drw b (n + c * i + c) H' H'' → Q' v H'') → te ((wipe σ vs).set j (some (.int (0 + (i : Nat))))) H' Q')
    (q : ∀ H' xs, xs.length = m → (∀ v ∈ xs, Dat (hid L (nov H2 H')) v) → H' L = some (.lst xs) → L ≠ b → Drw b (n + c * m) H2 H' → Qd H') :
    ∃ W : Nat → Nat → Hp → Prop, (∃ m, W 0 m (upd H2 L (.lst []))) ∧ ∀ i k H, W i k H →
      ((Itr 0 m).stop i H ∧ Qd H) ∨ ((Itr 0 m).go i H ∧ ∃ Nx : Hp → Prop, (∀ H', Nx H' → ∃ m', m' < k ∧ W (i + 1) m' H') ∧ ∀ x H', (Itr 0 m).yld i H x H' → gName j x (wipe σ vs) H' fun σ2 H2 => wipe σ2 vs = wipe σ vs ∧ tYes σ2 H2 fun b H3 =>
        if b = true then te σ2 H3 fun y H4 => ∃ acc, H4 L = some (.lst acc) ∧ acc.length < sizeLine ∧ Nx (upd H4 L (.lst (acc ++ [y]))) else Nx H3) := by
  have nLb : L ≠ b := by
    obtain ⟨l, q1, _⟩ := hb
    exact (ne_of_none q1 hL).symm
  refine lc_range (lo := 0) (n := m) (fun i H' => ∃ xs : List V, xs.length = i ∧ (∀ v ∈ xs, Dat (hid L (nov H2 H')) v) ∧ H' L = some (.lst xs) ∧ Drw b (n + c * i) H2 H') ?_ ?_ ?_
  · exact ⟨[], rfl, fun _ h => by (cases h), upd_same, (hb.new hL).1⟩
  · rintro i H' hi ⟨xs, hl, hI, h1, r1⟩
    refine ⟨hw _, r_yes (iteT ?_)⟩
    refine hel i H' hi r1 _ fun v H3 hv r2 => ?_
    have hL3 : H3 L = some (.lst xs) := hid_get (r2.ex _ _ (hid_of h1 nLb))
    refine ⟨xs, hL3, by rw [sizeLine_eq]; omega, xs ++ [v], by simp [hl], ?_, upd_same, ?_⟩
    · intro u hu
      rw [hid_nov_upd]
      rcases List.mem_append.mp hu with hu | hu
      · exact mono _ _ _ (hid_mono (r2.novm hb.some)) (hI u hu)
      · rw [List.mem_singleton.mp hu]
        exact mono _ _ _ (r1.baseL (by rw [h1]; exact fun e => by cases e)) hv
    · exact (Drw.put (r1.trans r2) (hid_none hL) nLb).mono (by rw [Nat.mul_succ]; omega)
  · rintro H' ⟨xs, hl, hI, h1, r1⟩
    exact q H' xs hl hI h1 nLb r1

/-! ### what a value is, by its data -/
def smallL : List Nat := (List.range 26).map (· + 97)
def capsL : List Nat := (List.range 26).map (· + 65)
def isWordS (z : Str) (m : Int) : Bool := decide ((z.length : Int) ≤ m) && z.cps.toList.all fun c => decide (c ∈ smallL)
def isWordD (m : Int) : PyData → Bool
  | .str z => isWordS z m
  | _ => false
def isIntD : PyData → Bool
  | .int _ => true
  | _ => false
def isItemD : PyData → Bool
  | .none => true
  | .int _ => true
  | .str z => isWordS z 30
  | _ => false
def isClsS (z : Str) : Bool := match z.cps.toList with
  | [] => false
  | c :: r => decide (r.length ≤ 11) && (decide (c ∈ capsL) && (c :: r).all fun d => decide (d ∈ smallL) || decide (d ∈ capsL))
def isClsD : PyData → Bool
  | .str z => isClsS z
  | _ => false
def isNonD : PyData → Bool
  | .none => true
  | _ => false
def isRaisedD : PyData → Bool
  | .tuple [.str a, b, c] => decide (a = "raises") && (isClsD b && (isNonD c || isClsD c))
  | _ => false
theorem raised_len {xs : List PyData} (h : xs.length ≠ 3) : isRaisedD (.tuple xs) = false := by
  unfold isRaisedD
  split
  · rename_i a b c e
    injection e with e
    subst e
    exact absurd rfl h
  · rfl
theorem raised_fst {a b c : PyData} (h : ∀ z, a ≠ .str z) : isRaisedD (.tuple [a, b, c]) = false := by
  unfold isRaisedD
  split
  · rename_i a' b' c' e
    injection e with e
    injection e with e1 e2
    exact absurd e1 (h a')
  · rfl
def isAnswerD : PyData → Bool
  | .list xs => xs.all isItemD
  | d => isItemD d || isRaisedD d
mutual
def fit : PyData → Bool
  | .none => true
  | .bool _ => true
  | .int _ => true
  | .str z => decide (z.length ≤ 100000) && PyData.strOk z
  | .list xs => decide (xs.length ≤ 100000) && fitAll xs
  | .tuple xs => decide (xs.length ≤ 100000) && fitAll xs
  | .dict _ => false
def fitAll : List PyData → Bool
  | [] => true
  | d :: r => fit d && fitAll r
end
theorem fit_str {z : Str} (h : fit (.str z) = true) : z.length ≤ 100000 ∧ PyData.strOk z = true := by
  rw [fit, Bool.and_eq_true, decide_eq_true_eq] at h
  exact h
theorem fit_list {xs : List PyData} (h : fit (.list xs) = true) : xs.length ≤ 100000 ∧ fitAll xs = true := by
  rw [fit, Bool.and_eq_true, decide_eq_true_eq] at h
  exact h
theorem fit_tuple {xs : List PyData} (h : fit (.tuple xs) = true) : xs.length ≤ 100000 ∧ fitAll xs = true := by
  rw [fit, Bool.and_eq_true, decide_eq_true_eq] at h
  exact h
theorem fitAll_mem : ∀ {xs : List PyData} {d : PyData}, fitAll xs = true → d ∈ xs → fit d = true
  | x :: r, d, h, m => by
    rw [fitAll, Bool.and_eq_true] at h
    rcases List.mem_cons.mp m with rfl | m
    · exact h.1
    · exact fitAll_mem h.2 m
theorem fitAll_of : ∀ {xs : List PyData}, (∀ d ∈ xs, fit d = true) → fitAll xs = true
  | [], _ => by rw [fitAll]
  | x :: r, h => by rw [fitAll, h x (List.mem_cons_self ..), fitAll_of fun d m => h d (List.mem_cons_of_mem _ m)]; rfl
mutual
theorem fit_lay : ∀ {d : PyData}, fit d = true → d.canLay0 = true
  | .none, _ => by rw [PyData.canLay0]
  | .bool _, _ => by rw [PyData.canLay0]
  | .int _, _ => by rw [PyData.canLay0]
  | .str z, h => by rw [PyData.canLay0]; exact (fit_str h).2
  | .list xs, h => by rw [PyData.canLay0]; exact fitAll_lay (fit_list h).2
  | .tuple xs, h => by rw [PyData.canLay0]; exact fitAll_lay (fit_tuple h).2
  | .dict _, h => by simp [fit] at h
theorem fitAll_lay : ∀ {xs : List PyData}, fitAll xs = true → PyData.canLayAll0 xs = true
  | [], _ => by rw [PyData.canLayAll0]
  | x :: r, h => by
    rw [fitAll, Bool.and_eq_true] at h
    rw [PyData.canLayAll0, fit_lay h.1, fitAll_lay h.2]
    rfl
end
/-- a def of one value that only reads it -/
def spB1 (K : PySem.W.Frag) (f : PyData → Bool) : Sp := fun vs H Q _ => ∃ (v : V) (d : PyData), vs = [v] ∧ Dp K H v d ∧ fit d = true ∧ ∀ H', Evl.Ex H H' → Q (.bl (f d)) H'
/-- a value that is plain data, at most so deep -/
def Dv (K : PySem.W.Frag) (H : Hp) (m : Nat) (v : V) : Prop := ∃ d, Dp K H v d ∧ fit d = true ∧ d.depth ≤ m
theorem dv_non {K : PySem.W.Frag} {H : Hp} {m : Nat} : Dv K H m .non := ⟨_, .non, by rw [fit], by simp [PyData.depth]⟩
theorem dv_bl {K : PySem.W.Frag} {H : Hp} {m : Nat} {b : Bool} : Dv K H m (.bl b) := ⟨_, .bl b, by rw [fit], by simp [PyData.depth]⟩
theorem dv_int {K : PySem.W.Frag} {H : Hp} {m : Nat} {i : Int} : Dv K H m (.int i) := ⟨_, .int i, by rw [fit], by simp [PyData.depth]⟩
theorem dv_str {K : PySem.W.Frag} {H : Hp} {m : Nat} {z : Str} (h1 : z.length ≤ 100000) (h2 : PyData.strOk z = true) : Dv K H m (.str z) := ⟨_, .str z, by rw [fit, h2, Bool.and_true]; exact decide_eq_true h1, by simp [PyData.depth]⟩
theorem Bag.ex {b : Addr} {n : Nat} {H H' : Hp} (h : Bag b n H) (e : Evl.Ex H H') : Drw b n H H' := by
  obtain ⟨l, h1, h2⟩ := h
  refine ⟨fun a o ha => hid_of (e _ _ (hid_get ha)) (hid_ne ha), l, e _ _ h1, h2⟩
mutual
theorem Dp.mono {K : PySem.W.Frag} {H H' : Hp} (e : Evl.Ex H H') : ∀ {d : PyData} {v : V}, Dp K H v d → Dp K H' v d
  | _, _, .non => .non
  | _, _, .bl b => .bl b
  | _, _, .int i => .int i
  | _, _, .str x => .str x
  | _, _, .lst s r => .lst (Evl.ex_l e s) (DpAll.mono e r)
  | _, _, .tup s r => .tup (Evl.ex_t e s) (DpAll.mono e r)
theorem DpAll.mono {K : PySem.W.Frag} {H H' : Hp} (e : Evl.Ex H H') : ∀ {ds : List PyData} {vs : List V}, DpAll K H vs ds → DpAll K H' vs ds
  | _, _, .nil => .nil
  | _, _, .cons a r => .cons (Dp.mono e a) (DpAll.mono e r)
end
theorem DpAll.length {K : PySem.W.Frag} {H : Hp} : ∀ {vs : List V} {ds : List PyData}, DpAll K H vs ds → vs.length = ds.length
  | _, _, .nil => rfl
  | _, _, .cons _ r => congrArg Nat.succ (DpAll.length r)
theorem DpAll.get {K : PySem.W.Frag} {H : Hp} : ∀ {vs : List V} {ds : List PyData} {i : Nat} {v : V}, DpAll K H vs ds → vs[i]? = some v → ∃ d, ds[i]? = some d ∧ Dp K H v d
  | _, _, i, v, .nil, e => by simp at e
  | _, _, 0, v, .cons a r, e => by
    simp at e
    subst e
    exact ⟨_, rfl, a⟩
  | _, _, i + 1, v, .cons a r, e => by
    obtain ⟨d, h1, h2⟩ := DpAll.get (i := i) (v := v) r (by simpa using e)
    exact ⟨d, by simpa using h1, h2⟩
theorem Dv.mono {K : PySem.W.Frag} {H H' : Hp} {m n : Nat} {v : V} (e : Evl.Ex H H') (h : m ≤ n) (d : Dv K H m v) : Dv K H' n v := by
  obtain ⟨d, h1, h2, h3⟩ := d
  exact ⟨d, Dp.mono e h1, h2, Nat.le_trans h3 h⟩
theorem dvAll {K : PySem.W.Frag} {H : Hp} {m : Nat} : ∀ {xs : List V}, (∀ v ∈ xs, Dv K H m v) → ∃ ds, DpAll K H xs ds ∧ fitAll ds = true ∧ PyData.depthAll ds ≤ m
  | [], _ => ⟨[], .nil, by rw [fitAll], by simp [PyData.depthAll]⟩
  | v :: r, h => by
    obtain ⟨d, h1, h2, h3⟩ := h v (List.mem_cons_self ..)
    obtain ⟨ds, k1, k2, k3⟩ := dvAll (xs := r) fun u hu => h u (List.mem_cons_of_mem _ hu)
    refine ⟨d :: ds, .cons h1 k1, by rw [fitAll, h2, k2]; rfl, ?_⟩
    rw [PyData.depthAll]
    omega
theorem dv_lst {K : PySem.W.Frag} {H : Hp} {m : Nat} {a : Addr} {xs : List V} (s : SqL K H a xs) (h : ∀ v ∈ xs, Dv K H m v) (hl : xs.length ≤ 100000) : Dv K H (m + 1) (.ref a) := by
  obtain ⟨ds, k1, k2, k3⟩ := dvAll h
  refine ⟨.list ds, .lst s k1, by rw [fit, k2, Bool.and_true, ← DpAll.length k1]; exact decide_eq_true hl, ?_⟩
  rw [PyData.depth]
  omega
theorem dv_tup {K : PySem.W.Frag} {H : Hp} {m : Nat} {a : Addr} {xs : List V} (s : SqT K H a xs) (h : ∀ v ∈ xs, Dv K H m v) (hl : xs.length ≤ 100000) : Dv K H (m + 1) (.ref a) := by
  obtain ⟨ds, k1, k2, k3⟩ := dvAll h
  refine ⟨.tuple ds, .tup s k1, by rw [fit, k2, Bool.and_true, ← DpAll.length k1]; exact decide_eq_true hl, ?_⟩
  rw [PyData.depth]
  omega
theorem SqL.len {K : PySem.W.Frag} {H : Hp} {a : Addr} {xs : List V} {P : Program} {w : World} {h : Heap} (o : HOk P w H h) (s : SqL K H a xs) : xs.length ≤ sizeLine := by
  rcases s with (s | ⟨b, s⟩) | ⟨o, its, n, _, _, _, _, s, r⟩
  · exact (o a _ s).1
  · exact (o a _ s).2.1
  · rw [r.length, Array.length_toList]
    exact s

/-! ### the head's facts -/
theorem at_of {fa : List He.Fa} {fn : List He.DefD} {K : PySem.W.Frag} {mg : Str → Option Value} {h : Heap} {x : Str} {st : Stmt} (X : K.In h) (G : h.Ns mainGlobals mg) (c : He.SaysD fa fn K) (i j : Nat)
    (h1 : fn[i]? = some ⟨(x, none), x, x, defArgs st, defBody st, defScope st, [], []⟩ := by rfl) (h2 : fa[j]? = some (.glo x) := by rfl) : At K mg x st := by
  obtain ⟨fd, F⟩ := c.def_ i h1
  exact ⟨_, fd, F, He.glo_ok X G (c.fact j h2)⟩
theorem atD_of {fa : List He.Fa} {fn : List He.DefD} {K : PySem.W.Frag} {mg : Str → Option Value} {h : Heap} {x : Str} {st : Stmt} {dfl : List He.Dv} {kwd : List (Str × He.Dv)} (X : K.In h) (G : h.Ns mainGlobals mg) (c : He.SaysD fa fn K) (i j : Nat)
    (h1 : fn[i]? = some ⟨(x, none), x, x, defArgs st, defBody st, defScope st, dfl, kwd⟩ := by rfl) (h2 : fa[j]? = some (.glo x) := by rfl) : AtD K mg x st (dfl.map (He.Dv.v K)) (kwd.map fun q => (q.1, q.2.v K)) := by
  obtain ⟨fd, F⟩ := c.def_ i h1
  exact ⟨_, fd, F, He.glo_ok X G (c.fact j h2)⟩
theorem gs_of {fa : List He.Fa} {fn : List He.DefD} {K : PySem.W.Frag} {mg : Str → Option Value} {h : Heap} {x z : Str} (X : K.In h) (G : h.Ns mainGlobals mg) (c : He.SaysD fa fn K) (j : Nat) (h2 : fa[j]? = some (.str x z) := by rfl) : ∃ u, mg x = some u ∧ RelV (.str z) u := by
  obtain ⟨t, e⟩ := He.str_ok X G (c.fact j h2)
  exact ⟨_, e, t, rfl⟩
def blFa : List He.Fa := [.free "len", .free "abs", .free "max", .free "min", .free "isinstance", .free "range", .free "int", .free "str", .free "list", .free "tuple", .free "bool", .free "dict", .free "all", .free "any", .free "enumerate", .free "sorted", .free "repr"]
theorem bl_of {fa : List He.Fa} {fn : List He.DefD} {K : PySem.W.Frag} {mg : Str → Option Value} {h : Heap} (X : K.In h) (G : h.Ns mainGlobals mg) (c : He.SaysD (blFa ++ fa) fn K) : Bl mg where
  len := He.free_ok X G (c.fact 0 (f := .free "len") rfl)
  abs := He.free_ok X G (c.fact 1 (f := .free "abs") rfl)
  max := He.free_ok X G (c.fact 2 (f := .free "max") rfl)
  min := He.free_ok X G (c.fact 3 (f := .free "min") rfl)
  isinstance := He.free_ok X G (c.fact 4 (f := .free "isinstance") rfl)
  range := He.free_ok X G (c.fact 5 (f := .free "range") rfl)
  int := He.free_ok X G (c.fact 6 (f := .free "int") rfl)
  str := He.free_ok X G (c.fact 7 (f := .free "str") rfl)
  list := He.free_ok X G (c.fact 8 (f := .free "list") rfl)
  tuple := He.free_ok X G (c.fact 9 (f := .free "tuple") rfl)
  bool := He.free_ok X G (c.fact 10 (f := .free "bool") rfl)
  dict := He.free_ok X G (c.fact 11 (f := .free "dict") rfl)
  all := He.free_ok X G (c.fact 12 (f := .free "all") rfl)
  any := He.free_ok X G (c.fact 13 (f := .free "any") rfl)
  enumerate := He.free_ok X G (c.fact 14 (f := .free "enumerate") rfl)
  sorted := He.free_ok X G (c.fact 15 (f := .free "sorted") rfl)
  repr := He.free_ok X G (c.fact 16 (f := .free "repr") rfl)
end WP

set_option Elab.async false
set_option linter.all false
set_option maxRecDepth 100000
set_option maxHeartbeats 4000000
namespace WP
open PySem PySem.Spec PyProof.Rows L2

/-! ### a hook with one more Bool -/
def obsE (n : Nat) (fa : List He.Fa) (fn : List He.DefD) (ex : PySem.W.Frag → Bool) (g : Addr → Option Obj) : He.AlD × Bool := (He.obsD fa fn (He.frG g (He.asD g n)), ex (He.frG g (He.asD g n)))
def hookE (n : Nat) (fa : List He.Fa) (fn : List He.DefD) (ex : PySem.W.Frag → Bool) : PySem.W.Hook where
  α := He.AlD × Bool
  obs := fun s => obsE n fa fn ex s.heap.get?
  val := fun _ => (He.valD fn, true)
  says := fun _ h => ∃ K : PySem.W.Frag, K.In h ∧ He.SaysD fa fn K ∧ ex K = true
  of := fun _ _ e => ⟨_, He.frG_in, congrArg (fun z : He.AlD × Bool => z.1) e, congrArg (fun z : He.AlD × Bool => z.2) e⟩
  keeps := fun _ _ _ ⟨K, hK, c⟩ k => ⟨K, PySem.W.Frag.In.keeps hK k, c⟩
theorem obsE_eq {n : Nat} {fa : List He.Fa} {fn : List He.DefD} {ex : PySem.W.Frag → Bool} {g : Addr → Option Obj} {s : Shared} (h : ∀ a, g a = s.heap.get? a) : obsE n fa fn ex g = (hookE n fa fn ex).obs s := by
  have e : g = s.heap.get? := funext h
  subst e
  rfl

/-! ### several targets -/
theorem pg_tupA {X : Cx} (K : PySem.W.Frag) {es : List Expr} {k : Nat} {pos : Pos} {n : Nat} {t : TGs} (h : PG X (.Tuple es k pos) (gTup X.K n t)) (e : X.K = K := by rfl) : PG X (.Tuple es k pos) (gTup K n t) := by subst e; exact h
section
variable {K : PySem.W.Frag} {σ : L2.St} {H : Hp} {R : L2.St → Hp → Prop} {v : V} {n : Nat} {t : TG} {ts : TGs}
theorem r_gTup {a : Addr} {xs : List V} (h : SqT K H a xs) (hl : xs.length = n) (q : ts xs σ H R) : gTup K n ts (.ref a) σ H R := ⟨a, xs, rfl, h, hl, q⟩
theorem r_gCons {r : List V} (q : t v σ H fun σ' H' => ts r σ' H' R) : gCons t ts (v :: r) σ H R := ⟨v, r, rfl, q⟩
theorem r_gNil (q : R σ H) : gNil [] σ H R := ⟨rfl, q⟩
theorem r_asgT {te : TE} {g : TG} {D : Ends} (q : te σ H fun x H1 => g x σ H1 D.nx) : tAsg te g D σ H := q
end

/-! ### texts by their signs -/
abbrev tl (z : Str) : List Nat := z.cps.toList
theorem tl_length (z : Str) : (tl z).length = z.length := by simp [Str.length]
theorem tl_ext {x y : Str} (h : tl x = tl y) : x = y := TL.ext_tl h
theorem tl_inj {x y : Str} : x = y ↔ tl x = tl y := ⟨fun h => by rw [h], tl_ext⟩
theorem tl_app (x y : Str) : tl (x ++ y) = tl x ++ tl y := TL.tl_append x y
theorem str_eta (z : Str) : (⟨(tl z).toArray⟩ : Str) = z := tl_ext rfl
theorem sub_one {z : Str} {c i : Nat} (h : i < z.length) : Builtin.Str.subAt z ⟨#[c]⟩ i = decide ((tl z)[i]? = some c) := by
  have hi : i < z.cps.size := h
  have e2 : z.cps.extract i (i + 1) = #[z.cps[i]] := by
    apply Array.ext
    · simp; omega
    · intro j h1 h2
      simp at h1 h2
      have : j = 0 := by omega
      subst this
      simp
  show (z.cps.extract i (i + 1) == #[c]) = _
  rw [e2]
  have e3 : (tl z)[i]? = some z.cps[i] := by simp [tl, hi]
  rw [e3]
  by_cases hc : z.cps[i] = c
  · rw [hc]; simp
  · have : ¬ (#[z.cps[i]] = #[c]) := fun e => hc (by simpa using e)
    rw [beq_eq_false_iff_ne.mpr this, decide_eq_false (by simpa using hc)]
theorem starts_one (z : Str) (c : Nat) : Txt.startswith z ⟨#[c]⟩ = decide ((tl z).head? = some c) := by
  show (decide (0 + 1 ≤ z.length) && Builtin.Str.subAt z ⟨#[c]⟩ 0) = _
  by_cases h : 0 < z.length
  · rw [sub_one h, decide_eq_true (by omega : 0 + 1 ≤ z.length), Bool.true_and, List.head?_eq_getElem?]
  · rw [decide_eq_false (by omega : ¬ 0 + 1 ≤ z.length), Bool.false_and]
    have : tl z = [] := List.eq_nil_of_length_eq_zero (by rw [tl_length]; omega)
    rw [this]; rfl
theorem ends_one (z : Str) (c : Nat) : Txt.endswith z ⟨#[c]⟩ = decide ((tl z).getLast? = some c) := by
  show (decide (0 + 1 ≤ z.length) && Builtin.Str.subAt z ⟨#[c]⟩ (z.length - 1)) = _
  by_cases h : 0 < z.length
  · rw [sub_one (by omega), decide_eq_true (by omega : 0 + 1 ≤ z.length), Bool.true_and, List.getLast?_eq_getElem?, tl_length]
  · rw [decide_eq_false (by omega : ¬ 0 + 1 ≤ z.length), Bool.false_and]
    have : tl z = [] := List.eq_nil_of_length_eq_zero (by rw [tl_length]; omega)
    rw [this]; rfl
theorem cut_tl (z : Str) (lo hi : Option Int) : tl (cutS z lo hi) = ((tl z).drop (HT.sIx z.length 0 lo)).take (HT.sIx z.length z.length hi - HT.sIx z.length 0 lo) := rfl
/-- z[1:] -/
theorem cut_tail (z : Str) : tl (cutS z (some 1) none) = (tl z).tail := by
  rw [cut_tl]
  have e1 : HT.sIx z.length 0 (some 1) = min 1 z.length := HT.sIx_nat z.length 0 1
  rw [e1, HT.sIx_none]
  cases h : tl z with
  | nil => simp
  | cons c r =>
    have : z.length = r.length + 1 := by rw [← tl_length, h, List.length_cons]
    rw [this]
    have : min 1 (r.length + 1) = 1 := by omega
    rw [this]
    simp
/-- z[:-1] -/
theorem cut_init (z : Str) : tl (cutS z none (some (-1))) = (tl z).dropLast := by
  rw [cut_tl, HT.sIx_none]
  have e1 : HT.sIx z.length z.length (some (-1)) = z.length - 1 := by
    show (if (-1 : Int) < 0 then ((-1 : Int) + (z.length : Int)).toNat else min (-1 : Int).toNat z.length) = _
    rw [if_pos (by omega)]
    omega
  rw [e1, List.drop_zero, List.dropLast_eq_take, tl_length]
  simp
/-- z[1:-1] -/
theorem cut_mid (z : Str) : tl (cutS z (some 1) (some (-1))) = (tl z).tail.dropLast := by
  rw [cut_tl]
  have e1 : HT.sIx z.length 0 (some 1) = min 1 z.length := HT.sIx_nat z.length 0 1
  have e2 : HT.sIx z.length z.length (some (-1)) = z.length - 1 := by
    show (if (-1 : Int) < 0 then ((-1 : Int) + (z.length : Int)).toNat else min (-1 : Int).toNat z.length) = _
    rw [if_pos (by omega)]
    omega
  rw [e1, e2]
  cases h : tl z with
  | nil => simp
  | cons c r =>
    have hl : z.length = r.length + 1 := by rw [← tl_length, h, List.length_cons]
    rw [hl]
    have : min 1 (r.length + 1) = 1 := by omega
    rw [this]
    show List.take (r.length + 1 - 1 - 1) r = r.dropLast
    rw [List.dropLast_eq_take]
    congr 1

/-! ### constants, names, calls by their signs -/
def digitsL : List Nat := (List.range 10).map (· + 48)
def isWordL (t : List Nat) (m : Nat) : Bool := decide (t.length ≤ m) && t.all fun c => decide (c ∈ smallL)
def numBody (t : List Nat) : List Nat := if t.head? = some 45 then t.tail else t
def isNumL (t : List Nat) : Bool := (decide (1 ≤ (numBody t).length) && decide ((numBody t).length ≤ 30)) && ((numBody t).all (fun c => decide (c ∈ digitsL)) && (!decide ((numBody t).head? = some 48) || decide (t = [48])))
def noneL : List Nat := [110, 111, 110, 101]
def isConstL (t : List Nat) : Bool := if 2 ≤ t.length ∧ t.head? = some 34 ∧ t.getLast? = some 34 then isWordL t.tail.dropLast 8 else (decide (t = noneL) || isNumL t)
def kwS : List Str := (["and", "assert", "assume", "break", "call", "clear", "continue", "else", "end", "error", "except", "fail", "for", "from", "if", "in", "is", "len", "let", "list", "none", "not", "number", "on", "or", "pass", "raises", "return", "set", "skip", "test", "try", "under", "word"] : List String).map Str.ofString
def isNameL (t : List Nat) : Bool := isWordL t 12 && (decide (t ≠ []) && !(kwS.any fun k => decide (tl k = t)))
def wordsL (r : List Nat) : List (List Nat) := if r = [] then [] else TL.spl [44, 32] 0 [] r
def isCallL (t : List Nat) : Bool := decide (t.getLast? = some 41) && (match TL.par [40] [] t.dropLast with
  | none => false
  | some (n, r) => isNameL n && (decide ((wordsL r).length ≤ 3) && (wordsL r).all isConstL))
theorem isWordS_L (z : Str) (m : Nat) : isWordS z (m : Int) = isWordL (tl z) m := by
  unfold isWordS isWordL
  congr 1
  exact decide_eq_decide.mpr (by rw [tl_length]; omega)
theorem spl_mem {S : List Nat} : ∀ (l : List Nat) (k : Nat) (acc : List Nat) (p : List Nat), p ∈ TL.spl S k acc l → p.length ≤ acc.length + l.length ∧ ∀ c ∈ p, c ∈ acc ∨ c ∈ l
  | [], k, acc, p, h => by
    rw [TL.spl_nil, List.mem_singleton] at h
    subst h
    exact ⟨by simp, fun c hc => .inl hc⟩
  | c :: r, 0, acc, p, h => by
    by_cases hp : TL.pre S (c :: r) = true
    · rw [TL.spl_hit hp] at h
      rcases List.mem_cons.mp h with rfl | h
      · exact ⟨by simp, fun c hc => .inl hc⟩
      · obtain ⟨h1, h2⟩ := spl_mem r _ [] p h
        exact ⟨by simp at h1 ⊢; omega, fun d hd => by rcases h2 d hd with h | h; cases h; exact .inr (List.mem_cons_of_mem _ h)⟩
    · rw [TL.spl_miss (by simpa using hp)] at h
      obtain ⟨h1, h2⟩ := spl_mem r 0 (acc ++ [c]) p h
      refine ⟨by simp at h1 ⊢; omega, fun d hd => ?_⟩
      rcases h2 d hd with h | h
      · rcases List.mem_append.mp h with h | h
        · exact .inl h
        · rw [List.mem_singleton.mp h]; exact .inr (List.mem_cons_self ..)
      · exact .inr (List.mem_cons_of_mem _ h)
  | c :: r, k + 1, acc, p, h => by
    obtain ⟨h1, h2⟩ := spl_mem r k acc p (show p ∈ TL.spl S k acc r from h)
    exact ⟨by simp; omega, fun d hd => by rcases h2 d hd with h | h; exact .inl h; exact .inr (List.mem_cons_of_mem _ h)⟩
theorem par_mem {S : List Nat} : ∀ (l acc a b : List Nat), TL.par S acc l = some (a, b) → (∀ c ∈ a, c ∈ acc ∨ c ∈ l) ∧ (∀ c ∈ b, c ∈ l) ∧ a.length ≤ acc.length + l.length ∧ b.length ≤ l.length
  | [], acc, a, b, h => by cases h
  | c :: r, acc, a, b, h => by
    have h' : (if TL.pre S (c :: r) = true then some (acc, (c :: r).drop S.length) else TL.par S (acc ++ [c]) r) = some (a, b) := h
    by_cases hp : TL.pre S (c :: r) = true
    · rw [if_pos hp] at h'
      injection h' with h'
      injection h' with e1 e2
      subst e1 e2
      exact ⟨fun c hc => .inl hc, fun d hd => List.mem_of_mem_drop hd, by omega, by simp⟩
    · rw [if_neg hp] at h'
      obtain ⟨h1, h2, h3, h4⟩ := par_mem r (acc ++ [c]) a b h'
      refine ⟨fun d hd => ?_, fun d hd => List.mem_cons_of_mem _ (h2 d hd), by simp at h3 ⊢; omega, by simp; omega⟩
      rcases h1 d hd with h | h
      · rcases List.mem_append.mp h with h | h
        · exact .inl h
        · rw [List.mem_singleton.mp h]; exact .inr (List.mem_cons_self ..)
      · exact .inr (List.mem_cons_of_mem _ h)
theorem strOk_iff {z : Str} : PyData.strOk z = true ↔ ∀ c ∈ tl z, c < 1114112 := by
  unfold PyData.strOk
  rw [← Array.all_toList, List.all_eq_true]
  exact ⟨fun h c hc => of_decide_eq_true (h c hc), fun h c hc => decide_eq_true (h c hc)⟩
theorem fit_of {z : Str} (h1 : (tl z).length ≤ 100000) (h2 : ∀ c ∈ tl z, c < 1114112) : fit (.str z) = true := by
  rw [fit, strOk_iff.mpr h2, Bool.and_true]
  exact decide_eq_true (by rw [← tl_length]; exact h1)
def isNameD : PyData → Bool
  | .str z => isNameL (tl z)
  | _ => false
def isCallD : PyData → Bool
  | .str z => isCallL (tl z)
  | _ => false
/-- a value's truth, with K written out (for tests inside a comprehension's block) -/
def tTruA (K : PySem.W.Frag) (ta : TE) : TT := fun σ H Q => ta σ H fun x H' => ∃ k, TruV K x H' k ∧ Q k H'
theorem pt_truthA {X : Cx} {a : Expr} {ta : TE} (K : PySem.W.Frag) (ha : PE X a ta) (he : ∀ whole, isTrue a X.env whole = (do let v ← whole; standAt a.pos; holding [v] (truthy v))) (h : X.K = K := by rfl) : PT X a (tTruA K ta) := by
  subst h
  exact pt_truth ha he
theorem r_tru {K : PySem.W.Frag} {ta : TE} {σ : L2.St} {H : Hp} {Q : Bool → Hp → Prop} (h : ta σ H fun x H' => ∃ k, TruV K x H' k ∧ Q k H') : tTruA K ta σ H Q := h
end WP

set_option Elab.async false
set_option linter.all false
set_option maxRecDepth 100000
set_option maxHeartbeats 4000000
/-! calls as texts: plain mathematics -/
namespace WP
open PySem PySem.Spec PyProof.Rows L2

/-! ### numbers -/
theorem int_text (i : Int) : tl (Str.ofString (toString i)) = if i < 0 then 45 :: TL.numL i.natAbs else TL.numL i.natAbs := by
  by_cases h : i < 0
  · rw [if_pos h]
    obtain ⟨n, rfl⟩ : ∃ n : Nat, i = Int.negSucc n := by
      cases i with
      | ofNat n => exact absurd h (by simp)
      | negSucc n => exact ⟨n, rfl⟩
    have e1 : toString (Int.negSucc n) = "-" ++ toString ((n + 1 : Nat) : Int) := rfl
    show (Str.ofString (toString (Int.negSucc n))).cps.toList = 45 :: TL.numL (n + 1)
    rw [e1, signs_ofString, String.toList_append, List.map_append, ← signs_ofString, ← signs_ofString, show (Str.ofString (toString ((n + 1 : Nat) : Int))).cps.toList = TL.numL (n + 1) from TL.tl_num (n + 1)]
    rfl
  · rw [if_neg h]
    obtain ⟨n, rfl⟩ := Int.eq_ofNat_of_zero_le (by omega : 0 ≤ i)
    exact TL.tl_num n
theorem numL_head {n : Nat} (h : 0 < n) : (TL.numL n).head? ≠ some 48 := by
  induction n using Nat.strongRecOn with
  | _ n ih =>
    by_cases h10 : n < 10
    · rw [TL.numL_lt h10]
      intro e
      have : 48 + n = 48 := by simpa using e
      omega
    · have ih2 := ih (n / 10) (by omega) (by omega)
      rw [TL.numL_step (by omega)]
      cases e : TL.numL (n / 10) with
      | nil => exact absurd e (TL.numL_ne _)
      | cons a r =>
        rw [e] at ih2
        exact ih2
theorem dig_mem {c : Nat} : c ∈ digitsL ↔ 48 ≤ c ∧ c ≤ 57 := by
  unfold digitsL
  rw [List.mem_map]
  constructor
  · rintro ⟨x, hx, rfl⟩
    have := List.mem_range.mp hx
    omega
  · rintro ⟨h1, h2⟩
    exact ⟨c - 48, List.mem_range.mpr (by omega), by omega⟩
theorem small_mem {c : Nat} : c ∈ smallL ↔ 97 ≤ c ∧ c ≤ 122 := by
  unfold smallL
  rw [List.mem_map]
  constructor
  · rintro ⟨x, hx, rfl⟩
    have := List.mem_range.mp hx
    omega
  · rintro ⟨h1, h2⟩
    exact ⟨c - 97, List.mem_range.mpr (by omega), by omega⟩
theorem num_all (n : Nat) : (TL.numL n).all (fun c => decide (c ∈ digitsL)) = true := by
  rw [List.all_eq_true]
  intro c hc
  exact decide_eq_true (dig_mem.mpr (TL.numL_digits n c hc))
theorem isNum_int {i : Int} (h : i.natAbs < 10 ^ 30) : isNumL (tl (Str.ofString (toString i))) = true := by
  have hne := TL.numL_ne i.natAbs
  have hlen := TL.numL_len (k := 30) (by decide) h
  have hpos : 1 ≤ (TL.numL i.natAbs).length := List.length_pos_iff.mpr hne
  rw [int_text]
  by_cases hi : i < 0
  · rw [if_pos hi]
    have e : numBody (45 :: TL.numL i.natAbs) = TL.numL i.natAbs := rfl
    rw [isNumL, e, num_all, decide_eq_true hpos, decide_eq_true hlen, decide_eq_false (numL_head (by omega))]
    rfl
  · rw [if_neg hi]
    have hh : (TL.numL i.natAbs).head? ≠ some 45 := by
      intro e
      have : 45 ∈ TL.numL i.natAbs := List.mem_of_mem_head? (by rw [e]; rfl)
      have := TL.numL_digits _ _ this
      omega
    have e : numBody (TL.numL i.natAbs) = TL.numL i.natAbs := if_neg hh
    rw [isNumL, e, num_all, decide_eq_true hpos, decide_eq_true hlen]
    by_cases h0 : i.natAbs = 0
    · rw [h0, TL.numL_lt (by decide)]; rfl
    · rw [decide_eq_false (numL_head (by omega))]; rfl

/-! ### constants -/
def Cst : V → Prop
  | .non => True
  | .int i => i.natAbs < 10 ^ 30
  | .str z => Word 8 z
  | _ => False
def cstS : V → Str
  | .non => "none"
  | .int i => Str.ofString (toString i)
  | .str z => (⟨#[34]⟩ : Str) ++ z ++ (⟨#[34]⟩ : Str)
  | _ => ""
def cstL (v : V) : List Nat := tl (cstS v)
theorem word_L {m : Nat} {z : Str} (h : Word m z) : isWordL (tl z) m = true := by
  unfold isWordL
  rw [decide_eq_true (show (tl z).length ≤ m by rw [tl_length]; exact h.1), Bool.true_and, List.all_eq_true]
  exact fun c hc => decide_eq_true (small_mem.mpr (h.2 c hc))
theorem cst_str (z : Str) : cstL (.str z) = 34 :: (tl z ++ [34]) := by
  show tl ((⟨#[34]⟩ : Str) ++ z ++ (⟨#[34]⟩ : Str)) = _
  rw [tl_app, tl_app]
  rfl
theorem cst_none : cstL .non = noneL := by decide +kernel
/-- the signs of constants -/
def good (c : Nat) : Prop := (97 ≤ c ∧ c ≤ 122) ∨ (48 ≤ c ∧ c ≤ 57) ∨ c = 45 ∨ c = 34
theorem const_good {t : List Nat} (h : isConstL t = true) : ∀ c ∈ t, good c := by
  intro c hc
  unfold isConstL at h
  split at h
  · rename_i hq
    obtain ⟨h2, h3, h4⟩ := hq
    match t, h2, h3, h4, h, hc with
    | a :: r, h2, h3, h4, h, hc =>
      have ha : a = 34 := by simpa using h3
      rcases List.mem_cons.mp hc with rfl | hc
      · exact .inr (.inr (.inr ha))
      · have hr : r ≠ [] := by rintro rfl; simp at h2
        have hl : r.getLast? = some 34 := by rw [List.getLast?_cons_of_ne_nil hr] at h4; exact h4
        have hl2 : r.getLast hr = 34 := by
          rw [List.getLast?_eq_some_getLast hr] at hl
          exact Option.some.inj hl
        rw [← List.dropLast_concat_getLast hr, hl2] at hc
        rcases List.mem_append.mp hc with hc | hc
        · unfold isWordL at h
          rw [Bool.and_eq_true, List.all_eq_true] at h
          exact .inl (small_mem.mp (of_decide_eq_true (h.2 c hc)))
        · exact .inr (.inr (.inr (List.mem_singleton.mp hc)))
  · rw [Bool.or_eq_true] at h
    rcases h with h | h
    · have : t = noneL := of_decide_eq_true h
      rw [this] at hc
      simp [noneL] at hc
      unfold good
      omega
    · unfold isNumL at h
      rw [Bool.and_eq_true, Bool.and_eq_true, Bool.and_eq_true] at h
      have h2 := h.2.1
      rw [List.all_eq_true] at h2
      unfold numBody at h2
      split at h2
      · rename_i h45
        match t, h45, h2, hc with
        | a :: r, h45, h2, hc =>
          have ha : a = 45 := by simpa using h45
          rcases List.mem_cons.mp hc with rfl | hc
          · exact .inr (.inr (.inl ha))
          · exact .inr (.inl (dig_mem.mp (of_decide_eq_true (h2 c hc))))
      · exact .inr (.inl (dig_mem.mp (of_decide_eq_true (h2 c hc))))
theorem const_bad {t : List Nat} {c : Nat} (hc : c ∈ t) (h : ¬ good c) : isConstL t = false := by
  cases e : isConstL t with
  | false => rfl
  | true => exact absurd (const_good e c hc) h
theorem const_nil : isConstL [] = false := by decide
theorem cst_const {v : V} (h : Cst v) : isConstL (cstL v) = true := by
  cases v with
  | non => rw [cst_none]; decide
  | int i =>
    have h : i.natAbs < 10 ^ 30 := h
    have hn := isNum_int h
    have e : cstL (.int i) = tl (Str.ofString (toString i)) := rfl
    rw [e]
    unfold isConstL
    rw [if_neg, hn, Bool.or_true]
    rintro ⟨_, h3, _⟩
    rw [int_text] at h3
    split at h3
    · have : 45 = 34 := Option.some.inj h3
      omega
    · have : 34 ∈ TL.numL i.natAbs := List.mem_of_mem_head? (by rw [h3]; rfl)
      have := TL.numL_digits _ _ this
      omega
  | str z =>
    have h : Word 8 z := h
    rw [cst_str]
    unfold isConstL
    rw [if_pos ⟨by simp, rfl, by rw [show (34 :: (tl z ++ [34]) : List Nat) = (34 :: tl z) ++ [34] from rfl]; exact List.getLast?_concat ..⟩]
    show isWordL (tl z ++ [34]).dropLast 8 = true
    rw [List.dropLast_concat]
    exact word_L h
  | _ => exact h.elim
theorem const_ne {t : List Nat} (h : isConstL t = true) : t ≠ [] := by
  rintro rfl
  rw [const_nil] at h
  cases h
theorem cst_len {v : V} (h : Cst v) : (cstL v).length ≤ 40 := by
  cases v with
  | non => rw [cst_none]; decide
  | int i =>
    have h : i.natAbs < 10 ^ 30 := h
    have hlen := TL.numL_len (k := 30) (by decide) h
    show (tl (Str.ofString (toString i))).length ≤ 40
    rw [int_text]
    split
    · rw [List.length_cons]; omega
    · omega
  | str z =>
    have h : Word 8 z := h
    have := h.1
    rw [cst_str, List.length_cons, List.length_append, tl_length]
    show z.length + 1 + 1 ≤ 40
    omega
  | _ => exact h.elim

/-! ### cutting at the commas -/
abbrev sep : List Nat := [44, 32]
/-- p, then c, which does not begin a comma and a blank: the first word holds c -/
theorem spl_first {p q : List Nat} {c : Nat} (hp : 44 ∉ p) (hc : TL.pre sep (c :: q) = false) : ∀ acc : List Nat, ∃ w ∈ TL.spl sep 0 acc (p ++ c :: q), c ∈ w := by
  induction p with
  | nil =>
    intro acc
    show ∃ w ∈ TL.spl sep 0 acc (c :: q), c ∈ w
    rw [TL.spl_miss hc]
    have key : ∀ (l acc : List Nat), c ∈ acc → ∃ w ∈ TL.spl sep 0 acc l, c ∈ w := by
      intro l
      induction l with
      | nil => intro acc h; exact ⟨acc, by rw [TL.spl_nil]; exact List.mem_singleton.mpr rfl, h⟩
      | cons d r ih =>
        intro acc h
        by_cases hd : TL.pre sep (d :: r) = true
        · rw [TL.spl_hit hd]
          exact ⟨acc, List.mem_cons_self .., h⟩
        · rw [TL.spl_miss (by simpa using hd)]
          exact ih _ (List.mem_append_left _ h)
    exact key q _ (List.mem_append_right _ (List.mem_singleton.mpr rfl))
  | cons d r ih =>
    intro acc
    show ∃ w ∈ TL.spl sep 0 acc (d :: (r ++ c :: q)), c ∈ w
    have hd : TL.pre sep (d :: (r ++ c :: q)) = false := TL.pre_of_head _ _ fun e => hp (by rw [← e]; exact List.mem_cons_self ..)
    rw [TL.spl_miss hd]
    exact ih (fun h => hp (List.mem_cons_of_mem _ h)) _
/-- the last word is empty or ends as the text does -/
theorem spl_end (q : List Nat) (c : Nat) : ∃ w ∈ TL.spl sep 0 [] (q ++ [c]), w = [] ∨ c ∈ w := by
  have key : ∀ (q acc : List Nat), (∃ w ∈ TL.spl sep 0 acc (q ++ [c]), w = [] ∨ c ∈ w) ∧ (∃ w ∈ TL.spl sep 1 [] (q ++ [c]), w = [] ∨ c ∈ w) := by
    intro q
    induction q with
    | nil =>
      intro acc
      constructor
      · show ∃ w ∈ TL.spl sep 0 acc [c], w = [] ∨ c ∈ w
        rw [TL.spl_miss (by unfold TL.pre; simp), TL.spl_nil]
        exact ⟨_, List.mem_singleton.mpr rfl, .inr (List.mem_append_right _ (List.mem_singleton.mpr rfl))⟩
      · show ∃ w ∈ TL.spl sep 0 [] [], w = [] ∨ c ∈ w
        rw [TL.spl_nil]
        exact ⟨_, List.mem_singleton.mpr rfl, .inl rfl⟩
    | cons d r ih =>
      intro acc
      constructor
      · show ∃ w ∈ TL.spl sep 0 acc (d :: (r ++ [c])), w = [] ∨ c ∈ w
        by_cases hd : TL.pre sep (d :: (r ++ [c])) = true
        · rw [TL.spl_hit hd]
          obtain ⟨w, h1, h2⟩ := (ih []).2
          exact ⟨w, List.mem_cons_of_mem _ h1, h2⟩
        · rw [TL.spl_miss (by simpa using hd)]
          exact (ih _).1
      · exact (ih []).1
  exact (key q []).1
theorem spl_sep (p q : List Nat) (h : 44 ∉ p) : TL.spl sep 0 [] (p ++ 44 :: 32 :: q) = p :: TL.spl sep 0 [] q := TL.spl_part1 (S := [32]) (acc := []) h

/-! ### calls -/
theorem words_ne {r : List Nat} (h : r ≠ []) : wordsL r = TL.spl sep 0 [] r := if_neg h
theorem call_at {name r : List Nat} (h : 40 ∉ name) : isCallL (name ++ 40 :: (r ++ [41])) = (isNameL name && (decide ((wordsL r).length ≤ 3) && (wordsL r).all isConstL)) := by
  have e1 : (name ++ 40 :: (r ++ [41])).getLast? = some 41 := by
    rw [show name ++ 40 :: (r ++ [41]) = (name ++ 40 :: r) ++ [41] by simp]
    exact List.getLast?_concat ..
  have e2 : (name ++ 40 :: (r ++ [41])).dropLast = name ++ ([40] ++ r) := by
    rw [show name ++ 40 :: (r ++ [41]) = (name ++ 40 :: r) ++ [41] by simp, List.dropLast_concat]
    rfl
  have e3 : TL.par [40] [] (name ++ ([40] ++ r)) = some (name, r) := TL.par_part1 (S := []) (acc := []) h
  unfold isCallL
  rw [e1, e2, e3]
  rfl
theorem call_bad {name r w : List Nat} (h : 40 ∉ name) (hr : r ≠ []) (hw : w ∈ TL.spl sep 0 [] r) (hb : isConstL w = false) : isCallL (name ++ 40 :: (r ++ [41])) = false := by
  rw [call_at h, words_ne hr]
  have : (TL.spl sep 0 [] r).all isConstL = false := by
    cases e : (TL.spl sep 0 [] r).all isConstL with
    | false => rfl
    | true =>
      rw [List.all_eq_true] at e
      rw [e w hw] at hb
      cases hb
  rw [this, Bool.and_false, Bool.and_false]
theorem call_end {t : List Nat} (h : t.getLast? ≠ some 41) : isCallL t = false := by
  unfold isCallL
  rw [decide_eq_false h, Bool.false_and]
theorem call_none {t : List Nat} (h : 40 ∉ t) : isCallL t = false := by
  unfold isCallL
  rw [TL.par_none1 (s := 40) (S := []) (acc := []) (p := t.dropLast) fun hm => h ((List.dropLast_sublist _).subset hm), Bool.and_false]
/-- a joined text is cut into its parts -/
theorem spl_parts : ∀ {parts : List (List Nat)}, parts ≠ [] → (∀ p ∈ parts, SX.free sep p = true) → TL.spl sep 0 [] (TL.joinL sep parts) = parts
  | [], h, _ => absurd rfl h
  | [p], _, hp => by
    show TL.spl sep 0 [] p = [p]
    have hf := hp p (List.mem_singleton.mpr rfl)
    have := TL.spl_last (S := sep) (p := p) (acc := []) fun i hi => ?_
    · simpa using this
    · have z := SX.free_at (sep := sep) hf [] i hi
      cases e : TL.pre sep (p.drop i) with
      | false => rfl
      | true =>
        have e2 : (p ++ (sep ++ [])).drop i = p.drop i ++ sep := by
          rw [List.append_nil, List.drop_append_of_le_length (by omega)]
        rw [e2] at z
        unfold TL.pre at e z
        have e3 := eq_of_beq e
        have hl : sep.length ≤ (p.drop i).length := by
          have := congrArg List.length e3
          rw [List.length_take] at this
          omega
        rw [List.take_append_of_le_length hl, e3] at z
        simp at z
  | p :: q :: r, _, hp => by
    show TL.spl sep 0 [] (p ++ (sep ++ TL.joinL sep (q :: r))) = p :: q :: r
    rw [SX.spl_free _ (by simp) (hp p (List.mem_cons_self ..)), spl_parts (by simp) fun x hx => hp x (List.mem_cons_of_mem _ hx)]
theorem join_ne : ∀ {parts : List (List Nat)}, parts ≠ [] → (∀ p ∈ parts, p ≠ []) → TL.joinL sep parts ≠ []
  | [], h, _ => absurd rfl h
  | [p], _, hp => hp p (List.mem_singleton.mpr rfl)
  | p :: q :: r, _, hp => by
    show p ++ (sep ++ TL.joinL sep (q :: r)) ≠ []
    simp
theorem words_join {parts : List (List Nat)} (h1 : ∀ p ∈ parts, SX.free sep p = true) (h2 : ∀ p ∈ parts, p ≠ []) : wordsL (TL.joinL sep parts) = parts := by
  cases parts with
  | nil => rfl
  | cons p r => rw [words_ne (join_ne (by simp) h2), spl_parts (by simp) h1]
/-- THE LAW of calls: parts between commas -/
theorem call_main {name : List Nat} {parts : List (List Nat)} (h : 40 ∉ name) (h1 : ∀ p ∈ parts, SX.free sep p = true) (h2 : ∀ p ∈ parts, p ≠ []) :
    isCallL (name ++ 40 :: (TL.joinL sep parts ++ [41])) = (isNameL name && (decide (parts.length ≤ 3) && parts.all isConstL)) := by
  rw [call_at h, words_join h1 h2]
theorem name_small {t : List Nat} (h : isNameL t = true) : t ≠ [] ∧ t.length ≤ 12 ∧ ∀ c ∈ t, 97 ≤ c ∧ c ≤ 122 := by
  unfold isNameL isWordL at h
  simp only [Bool.and_eq_true, decide_eq_true_eq, List.all_eq_true] at h
  exact ⟨h.2.1, h.1.1, fun c hc => small_mem.mp (h.1.2 c hc)⟩
theorem cst_free {v : V} (h : Cst v) : SX.free sep (cstL v) = true := SX.free_head fun hm => by
  have := const_good (cst_const h) 44 hm
  unfold good at this
  omega
/-! ### parts of calls that may be wrong -/
structure PartB (t : List Nat) (ok : Bool) : Prop where
  ne : t ≠ []
  o : 40 ∉ t
  s : 41 ∉ t
  free : SX.free sep t = true
  is : isConstL t = ok
  len : t.length ≤ 6000
  low : ∀ c ∈ t, c < 1114112
def partB (t : List Nat) (ok : Bool) : Bool := decide (t ≠ []) && (!decide (40 ∈ t) && (!decide (41 ∈ t) && (SX.free sep t && (decide (isConstL t = ok) && (decide (t.length ≤ 6000) && t.all fun c => decide (c < 1114112))))))
theorem partB_ok {t : List Nat} {ok : Bool} (h : partB t ok = true) : PartB t ok := by
  unfold partB at h
  simp only [Bool.and_eq_true, Bool.not_eq_true', decide_eq_true_eq, decide_eq_false_iff_not, List.all_eq_true] at h
  obtain ⟨h1, h2, h3, h4, h5, h6, h7⟩ := h
  exact ⟨h1, h2, h3, h4, h5, h6, h7⟩
theorem partB_cst {v : V} (h : Cst v) : PartB (cstL v) true := by
  have hg := const_good (cst_const h)
  have key : ∀ c, c ∈ cstL v → good c := fun c hc => hg c hc
  refine ⟨const_ne (cst_const h), fun hm => ?_, fun hm => ?_, cst_free h, cst_const h, Nat.le_trans (cst_len h) (by decide), fun c hc => ?_⟩
  · have := key _ hm; unfold good at this; omega
  · have := key _ hm; unfold good at this; omega
  · have := key _ hc; unfold good at this; omega
theorem mul_tl {c : Nat} {n : Int} (h : 1 < n) : tl (Txt.mul ⟨#[c]⟩ n) = List.replicate n.toNat c := by
  have h1 : ¬ n < 1 := by omega
  have h2 : ¬ ((n == 1 || (⟨#[c]⟩ : Str).length == 0) = true) := by
    have : ¬ n = 1 := by omega
    simp [this, Str.length]
  unfold Txt.mul
  rw [if_neg h1, if_neg h2]
  have key : ∀ (k : Nat) (acc : Array Nat), ((List.replicate k (⟨#[c]⟩ : Str).cps).foldl (· ++ ·) acc).toList = acc.toList ++ List.replicate k c := by
    intro k
    induction k with
    | zero => intro acc; simp
    | succ k ih => intro acc; rw [List.replicate_succ, List.foldl_cons, ih]; simp [List.replicate_succ]
  show ((List.replicate n.toNat (⟨#[c]⟩ : Str).cps).foldl (· ++ ·) #[]).toList = _
  rw [key]
  rfl
theorem partB_long {c : Nat} {n : Nat} (pre : List Nat) (hp : pre = [] ∨ pre = [45]) (hc : 48 ≤ c ∧ c ≤ 57) (hn : 30 < n) (h2 : n ≤ 5000) : PartB (pre ++ List.replicate n c) false := by
  have hm : ∀ d ∈ pre ++ List.replicate n c, d = 45 ∨ d = c := by
    intro d hd
    rcases List.mem_append.mp hd with hd | hd
    · rcases hp with rfl | rfl
      · cases hd
      · exact .inl (List.mem_singleton.mp hd)
    · exact .inr (List.eq_of_mem_replicate hd)
  have hb : numBody (pre ++ List.replicate n c) = List.replicate n c := by
    rcases hp with rfl | rfl
    · unfold numBody
      rw [if_neg]
      · rfl
      · intro e
        have := hm 45 (List.mem_of_mem_head? (by rw [e]; rfl))
        have e2 : c = 45 := by
          have e' : (List.replicate n c).head? = some 45 := e
          rw [List.head?_replicate, if_neg (by omega)] at e'
          exact Option.some.inj e'
        omega
    · rfl
  refine ⟨fun e => ?_, fun h => ?_, fun h => ?_, SX.free_head fun h => ?_, ?_, ?_, fun d hd => ?_⟩
  · have := congrArg List.length e
    rw [List.length_append, List.length_replicate] at this
    simp at this
    omega
  · have := hm _ h; omega
  · have := hm _ h; omega
  · have := hm _ h; omega
  · unfold isConstL
    rw [if_neg]
    · unfold isNumL
      rw [hb, List.length_replicate, decide_eq_false (show ¬ n ≤ 30 by omega), Bool.and_false, Bool.false_and, Bool.or_false]
      refine decide_eq_false fun e => ?_
      have := hm 110 (by rw [e]; decide)
      omega
    · rintro ⟨_, h, _⟩
      have := hm 34 (List.mem_of_mem_head? (by rw [h]; rfl))
      omega
  · rw [List.length_append, List.length_replicate]
    rcases hp with rfl | rfl
    · simp; omega
    · simp; omega
  · have := hm _ hd; omega

/-! ### spoilt calls -/
theorem join_mem0 {c : Nat} : ∀ {parts : List (List Nat)}, c ∈ TL.joinL sep parts → c = 44 ∨ c = 32 ∨ ∃ p ∈ parts, c ∈ p
  | [], h => by cases h
  | [p], h => .inr (.inr ⟨p, List.mem_singleton.mpr rfl, h⟩)
  | p :: q :: r, h => by
    have h : c ∈ p ++ (sep ++ TL.joinL sep (q :: r)) := h
    rcases List.mem_append.mp h with h | h
    · exact .inr (.inr ⟨p, List.mem_cons_self .., h⟩)
    · rcases List.mem_append.mp h with h | h
      · simp at h
        omega
      · rcases join_mem0 h with h | h | ⟨x, hx, h⟩
        · exact .inl h
        · exact .inr (.inl h)
        · exact .inr (.inr ⟨x, List.mem_cons_of_mem _ hx, h⟩)

theorem join_last {c : Nat} (h41 : c = 41) : ∀ {parts : List (List Nat)}, (∀ p ∈ parts, c ∉ p) → c ∉ TL.joinL sep parts := by
  intro parts h hm
  rcases join_mem0 hm with e | e | ⟨p, hp, e⟩
  · omega
  · omega
  · exact h p hp e
theorem name_no {t : List Nat} (h : isNameL t = true) {c : Nat} (hc : c < 97) : c ∉ t := fun hm => by
  have := (name_small h).2.2 c hm
  omega
theorem bad_first {name q : List Nat} {c : Nat} (h : 40 ∉ name) (h44 : c ≠ 44) (hb : ¬ good c) : isCallL (name ++ 40 :: ((c :: q) ++ [41])) = false := by
  obtain ⟨w, hw, hc⟩ := spl_first (p := []) (q := q) (c := c) (by simp) (TL.pre_of_head _ _ h44) []
  exact call_bad h (by simp) hw (const_bad hc hb)
theorem bad_last {name q : List Nat} {c : Nat} (h : 40 ∉ name) (hb : ¬ good c) : isCallL (name ++ 40 :: ((q ++ [c]) ++ [41])) = false := by
  obtain ⟨w, hw, hc⟩ := spl_end q c
  refine call_bad h (by simp) hw ?_
  rcases hc with rfl | hc
  · exact const_nil
  · exact const_bad hc hb
theorem bad_at {name p q : List Nat} {c : Nat} (h : 40 ∉ name) (hp : 44 ∉ p) (hc : TL.pre sep (c :: q) = false) (hb : ¬ good c) : isCallL (name ++ 40 :: ((p ++ c :: q) ++ [41])) = false := by
  obtain ⟨w, hw, hcw⟩ := spl_first (p := p) (q := q) (c := c) hp hc []
  exact call_bad h (by simp) hw (const_bad hcw hb)
theorem bad_next {name p q w : List Nat} (h : 40 ∉ name) (hp : 44 ∉ p) (hw : w ∈ TL.spl sep 0 [] q) (hb : isConstL w = false) : isCallL (name ++ 40 :: ((p ++ 44 :: 32 :: q) ++ [41])) = false :=
  call_bad h (by simp) (by rw [spl_sep p q hp]; exact List.mem_cons_of_mem _ hw) hb
theorem good_not {c : Nat} (h : good c) : c ≠ 44 ∧ c ≠ 32 ∧ c ≠ 40 ∧ c ≠ 41 ∧ c ≠ 59 := by
  unfold good at h
  omega
/-- two right constants and something else than a comma and a blank between them -/
theorem bad_comma {name p1 p2 cm rest : List Nat} (h : 40 ∉ name) (h1 : isConstL p1 = true) (h2 : isConstL p2 = true)
    (hc : cm = [44] ∨ cm = [32, 44] ∨ cm = [32, 44, 32] ∨ cm = [44, 32, 32] ∨ cm = [32] ∨ cm = [59] ∨ cm = [44, 32, 44, 32]) : isCallL (name ++ 40 :: ((p1 ++ (cm ++ (p2 ++ rest))) ++ [41])) = false := by
  have n44 : 44 ∉ p1 := fun hm => (good_not (const_good h1 _ hm)).1 rfl
  obtain ⟨d, r, hd⟩ : ∃ d r, p2 = d :: r := by
    cases e : p2 with
    | nil => exact absurd e (const_ne h2)
    | cons d r => exact ⟨d, r, rfl⟩
  have gd := good_not (const_good h2 d (by rw [hd]; exact List.mem_cons_self ..))
  have nb : ∀ c, c = 44 ∨ c = 32 ∨ c = 59 → ¬ good c := by
    intro c hc hg
    have := good_not hg
    omega
  rcases hc with rfl | rfl | rfl | rfl | rfl | rfl | rfl
  · refine bad_at (c := 44) h n44 ?_ (nb _ (.inl rfl))
    rw [hd]
    unfold TL.pre
    show (([44, d] : List Nat) == [44, 32]) = false
    rw [beq_eq_false_iff_ne]
    intro e
    have : d = 32 := by simpa using e
    omega
  · exact bad_at (c := 32) (q := 44 :: (p2 ++ rest)) h n44 (TL.pre_of_head _ _ (by decide)) (nb _ (.inr (.inl rfl)))
  · exact bad_at (c := 32) (q := 44 :: 32 :: (p2 ++ rest)) h n44 (TL.pre_of_head _ _ (by decide)) (nb _ (.inr (.inl rfl)))
  · obtain ⟨w, hw, hcw⟩ := spl_first (p := []) (q := p2 ++ rest) (c := 32) (by simp) (TL.pre_of_head _ _ (by decide)) []
    exact bad_next (q := 32 :: (p2 ++ rest)) h n44 hw (const_bad hcw (nb _ (.inr (.inl rfl))))
  · exact bad_at (c := 32) (q := p2 ++ rest) h n44 (TL.pre_of_head _ _ (by decide)) (nb _ (.inr (.inl rfl)))
  · exact bad_at (c := 59) (q := p2 ++ rest) h n44 (TL.pre_of_head _ _ (by decide)) (nb _ (.inr (.inr rfl)))
  · exact bad_next (q := 44 :: 32 :: (p2 ++ rest)) (w := []) h n44 (by rw [show (44 :: 32 :: (p2 ++ rest) : List Nat) = [] ++ 44 :: 32 :: (p2 ++ rest) from rfl, spl_sep [] _ (by simp)]; exact List.mem_cons_self ..) const_nil

/-! ### more of the layer -/
section
variable {X : Cx} {k j : Nat} {x : Str} {sp : Sp} {p pos : Pos}
theorem pe_cA0 (c : Cal X.prog X.w X.K X.mg X.base k x sp) (hr : Room j X.A) (hk : k ≤ j) (hg : Gl X x) (hdb : (x == ("__debug__" : Str)) = false := by decide) :
    PE X (.Call (.Name x p) [] [] pos) (tCall sp [] L2.E0 tNil) := by
  obtain ⟨f, fd, ps, F, hm, kp, b⟩ := c.ex
  exact pe_call0 F (hr.mono hk) hg hm kp b .nil L2.pass0 hdb
def rStrA : List V → Hp → VK → Prop := fun xs H Q => ∃ i, xs = [.int i] ∧ i.natAbs.log2 < 1920 ∧ Q (.str (Str.ofString (toString i))) H
theorem call_strA : CallR X (.type "str") rStrA := call_str_int
end
theorem r_str {H : Hp} {Q : VK} {i : Int} (h : i.natAbs < 10 ^ 100) (q : Q (.str (Str.ofString (toString i))) H) : rStrA [.int i] H Q := ⟨i, rfl, Nat.lt_of_lt_of_le (PySem.Flt.log2_lt_of (k := 400) (by decide) (Nat.lt_of_lt_of_le h (by decide))) (by decide), q⟩
/-- a call as a text, and what it is made of -/
def CallOk (z : Str) : Prop := ∃ (name : List Nat) (vs : List V), isNameL name = true ∧ (∀ v ∈ vs, Cst v) ∧ vs.length ≤ 3 ∧ tl z = name ++ 40 :: (TL.joinL sep (vs.map cstL) ++ [41])
theorem CallOk.is {z : Str} (h : CallOk z) : isCallL (tl z) = true := by
  obtain ⟨name, vs, h1, h2, h3, h4⟩ := h
  rw [h4, call_main, h1, List.length_map, decide_eq_true h3, Bool.true_and, Bool.true_and, List.all_map, List.all_eq_true]
  · exact fun v hv => cst_const (h2 v hv)
  · intro hm
    have := (name_small h1).2.2 40 hm
    omega
  · intro p hp
    obtain ⟨v, hv, rfl⟩ := List.mem_map.mp hp
    exact cst_free (h2 v hv)
  · intro p hp
    obtain ⟨v, hv, rfl⟩ := List.mem_map.mp hp
    exact const_ne (cst_const (h2 v hv))
theorem join_mem {c : Nat} {parts : List (List Nat)} (h : c ∈ TL.joinL sep parts) : c = 44 ∨ c = 32 ∨ ∃ p ∈ parts, c ∈ p := join_mem0 h
theorem join_len {m : Nat} : ∀ {parts : List (List Nat)}, (∀ p ∈ parts, p.length ≤ m) → (TL.joinL sep parts).length ≤ parts.length * (m + 2)
  | [], _ => by simp [TL.joinL]
  | [p], h => by
    have := h p (List.mem_singleton.mpr rfl)
    show p.length ≤ 1 * (m + 2)
    omega
  | p :: q :: r, h => by
    have h1 := h p (List.mem_cons_self ..)
    have h2 := join_len (m := m) (parts := q :: r) fun x hx => h x (List.mem_cons_of_mem _ hx)
    show (p ++ (sep ++ TL.joinL sep (q :: r))).length ≤ (r.length + 1 + 1) * (m + 2)
    rw [List.length_append, List.length_append]
    rw [List.length_cons] at h2
    have : (r.length + 1 + 1) * (m + 2) = (r.length + 1) * (m + 2) + (m + 2) := Nat.succ_mul _ _
    show p.length + (2 + _) ≤ _
    omega
theorem CallOk.fit {z : Str} (h : CallOk z) : fit (.str z) = true := by
  obtain ⟨name, vs, h1, h2, h3, h4⟩ := h
  obtain ⟨n1, n2, n3⟩ := name_small h1
  have hj := join_len (m := 40) (parts := vs.map cstL) fun p hp => by
    obtain ⟨v, hv, rfl⟩ := List.mem_map.mp hp
    exact cst_len (h2 v hv)
  rw [List.length_map] at hj
  refine fit_of ?_ ?_
  · rw [h4, List.length_append, List.length_cons, List.length_append]
    show name.length + (_ + 1 + 1) ≤ _
    omega
  · intro c hc
    rw [h4] at hc
    rcases List.mem_append.mp hc with hc | hc
    · have := n3 c hc; omega
    · rcases List.mem_cons.mp hc with hc | hc
      · omega
      · rcases List.mem_append.mp hc with hc | hc
        · rcases join_mem hc with h | h | ⟨p, hp, h⟩
          · omega
          · omega
          · obtain ⟨v, hv, rfl⟩ := List.mem_map.mp hp
            have := const_good (cst_const (h2 v hv)) c h
            unfold good at this
            omega
        · have := List.mem_singleton.mp hc; omega
theorem cst_fit {v : V} (h : Cst v) : fit (.str (cstS v)) = true := by
  refine fit_of (Nat.le_trans (cst_len h) (by decide)) fun c hc => ?_
  have := const_good (cst_const h) c hc
  unfold good at this
  omega
end WP

set_option Elab.async false
set_option linter.all false
set_option maxRecDepth 100000
set_option maxHeartbeats 4000000
namespace WP
open PySem PySem.Spec PyProof.Rows L2
/-! ### calls with keywords: the values are written in the parameters' order -/
structure CalK (P : Program) (w : World) (K : PySem.W.Frag) (mg : Str → Option Value) (base : Heap) (k : Nat) (x : Str) (sp : Sp) (n : Nat) (ks : List Str) : Prop where
  ex : ∃ (f : Addr) (fd : FuncData) (ps : List Str), FnOk P w K mg base L2.CX0 k f fd ps sp ∧ mg x = some (.ref f) ∧ PySem.W.keepIn K (.ref f) = true ∧ KBn K fd ps n ks (fun us ws => us ++ ws) (fun vs zs => vs ++ zs)
def tCallW (n m : Nat) (sp : Sp) (t tk : TA) : TE := fun σ H Q => t σ H fun vs H1 => tk σ H1 fun zs H2 => vs.length = n ∧ zs.length = m ∧ sp (vs ++ zs) H2 Q L2.E0
theorem r_callW {n m : Nat} {sp : Sp} {t tk : TA} {σ : L2.St} {H : Hp} {Q : VK} (q : t σ H fun vs H1 => tk σ H1 fun zs H2 => vs.length = n ∧ zs.length = m ∧ sp (vs ++ zs) H2 Q L2.E0) : tCallW n m sp t tk σ H Q := q
section
variable {X : Cx} {k j n : Nat} {x : Str} {sp : Sp} {ks : List Str} {p pos : Pos} {e : Expr} {es : List Expr} {kws : List Keyword} {t tk : TA}
theorem pe_cK (c : CalK X.prog X.w X.K X.mg X.base k x sp n ks) (hr : Room j X.A) (hk : k ≤ j) (hg : Gl X x) (ha : PA X (e :: es) t) (hkw : PK X kws tk)
    (hall : (backToKw pos (keywordEach kws X.env)).all (·.1.isSome) = true := by rfl) (hks : (backToKw pos (keywordEach kws X.env)).filterMap (·.1) = ks := by rfl)
    (hdb : (x == ("__debug__" : Str)) = false := by decide) (he : starEach (e :: es) X.env = (false, eval e X.env) :: starEach es X.env := by rfl)
    (hpl : ((backTo pos (starEach (e :: es) X.env)).any (·.1) || (backToKw pos (keywordEach kws X.env)).any (·.1.isNone)) = false := by rfl) :
    PE X (.Call (.Name x p) (e :: es) kws pos) (tCallW n ks.length sp t tk) := by
  obtain ⟨f, fd, ps, F, hm, kp, b⟩ := c.ex
  exact pe_callN F (hr.mono hk) hg hm kp b L2.pass0 ha hkw hall hks hdb he hpl
theorem pe_cK0 (c : CalK X.prog X.w X.K X.mg X.base k x sp 0 ks) (hr : Room j X.A) (hk : k ≤ j) (hg : Gl X x) (hkw : PK X kws tk)
    (hall : (backToKw pos (keywordEach kws X.env)).all (·.1.isSome) = true := by rfl) (hks : (backToKw pos (keywordEach kws X.env)).filterMap (·.1) = ks := by rfl)
    (hdb : (x == ("__debug__" : Str)) = false := by decide)
    (hpl : ((backTo pos (starEach [] X.env)).any (·.1) || (backToKw pos (keywordEach kws X.env)).any (·.1.isNone)) = false := by rfl) :
    PE X (.Call (.Name x p) [] kws pos) (tCallW 0 ks.length sp tNil tk) := by
  obtain ⟨f, fd, ps, F, hm, kp, b⟩ := c.ex
  refine ⟨fun pins s σ H Q I h => ?_⟩
  refine wpAny_Call_Name_kw (ld_glob I hg hm ?_ hdb)
  refine PySem.W.callWith_KW0 (h₀ := X.base) I.ok.mod.kin kp hall (thn (hkw.run pos pins s σ H _ I h) fun ws s2 ⟨zs, H2, I2, rz, l1, l2, q2⟩ => ⟨I2.kIn, ?_⟩) hpl
  rw [hks]
  exact run_fnN F (hr.mono hk) b L2.pass0 I2 .nil rz l1 l2 q2
end
section
variable {P : Program} {w : World} {K : PySem.W.Frag} {mg : Str → Option Value} {base : Heap}
theorem Vals.app {vs zs : List V} {us ws : List Value} (h1 : Vals vs us) (h2 : Vals zs ws) : Vals (vs ++ zs) (us ++ ws) := h1.append h2
/-- all parameters are written, by place and by name -/
theorem calK_of {x : Str} {st : Stmt} {N ps : List Str} {k : Nat} {sp : Sp} {kws : List (Str × V)} (F : AtD K mg x st [] kws) (S : FnScope N ps (defScope st)) (len : ∀ vs H Q E, sp vs H Q E → vs.length = ps.length)
    (hbody : ∀ (f : Addr) (cdv : Value) (A : Around) (outer : List Env) (s : Shared) (H : Hp) (vs : List V) (Q : VK) (E : XK), Room k (A.deeper (envOfC x (defScope st) s.heap.objs.size f cdv)) → sp vs H Q E →
      ∃ t, PSs (cxOf L2.CX0 P w K mg base N x (defScope st) f cdv A outer s H E).nox (defBody st) t ∧ t { nx := fun _ H' => Q .non H', rt := Q } (start N vs) H) (n : Nat) (ks : List Str)
    (hb : ∀ (kV doc pm : Value) (an : Option Addr) (cdv ct : Value) (us ws : List Value), us.length = n → ws.length = ks.length →
      bindArgs (PySem.W.fnOf x x (defArgs st) (defBody st) (defScope st) .none kV doc pm an cdv ct) ⟨us, ks.zip ws⟩ = pure (ps.zip (us ++ ws))) : CalK P w K mg base (k + 1) x sp n ks := by
  obtain ⟨f, fd, F, m⟩ := F.ex
  refine ⟨f, fd, ps, F.ok S len fun cdv A outer s H vs Q E hr hsp => ?_, m, F.kp, ?_⟩
  · obtain ⟨t, h, q⟩ := hbody f cdv A outer s H vs Q E hr hsp
    exact ⟨t, h.nox, q⟩
  · obtain ⟨oc, od, dV, kV, doc, pm, an, cdv, ct, osl, rfl, lk, hcd, hD, hK⟩ := F.ex
    rcases hD with ⟨_, rfl⟩ | ⟨e, _⟩
    · exact ⟨fun s us ws _ h1 h2 => BindsTo.of_eq (hb kV doc pm an cdv ct us ws h1 h2), fun h1 h2 => Vals.app h1 h2⟩
    · exact absurd rfl e
/-- the keyword-only ones are left out -/
theorem calD0_of {x : Str} {st : Stmt} {N ps : List Str} {k : Nat} {sp : Sp} {kws : List (Str × V)} (F : AtD K mg x st [] kws) (S : FnScope N ps (defScope st)) (len : ∀ vs H Q E, sp vs H Q E → vs.length = ps.length)
    (hbody : ∀ (f : Addr) (cdv : Value) (A : Around) (outer : List Env) (s : Shared) (H : Hp) (vs : List V) (Q : VK) (E : XK), Room k (A.deeper (envOfC x (defScope st) s.heap.objs.size f cdv)) → sp vs H Q E →
      ∃ t, PSs (cxOf L2.CX0 P w K mg base N x (defScope st) f cdv A outer s H E).nox (defBody st) t ∧ t { nx := fun _ H' => Q .non H', rt := Q } (start N vs) H) (n : Nat) (hk : kws ≠ []) (hn : n + kws.length = ps.length)
    (hb : ∀ (D : Addr) (doc pm : Value) (an : Option Addr) (cdv ct : Value) (us ks : List Value), us.length = n → ks.length = kws.length →
      KwChain D ((kws.map (·.1)).zip ks) (bindArgs (PySem.W.fnOf x x (defArgs st) (defBody st) (defScope st) .none (.ref D) doc pm an cdv ct) ⟨us, []⟩) (ps.zip (us ++ ks))) : CalD P w K mg base (k + 1) x sp (kws.map (·.2)) := by
  obtain ⟨f, fd, F, m⟩ := F.ex
  obtain ⟨ds, hv, b⟩ := F.binds0 n hk hn hb
  refine ⟨f, fd, ps, ds, F.ok S len fun cdv A outer s H vs Q E hr hsp => ?_, m, F.kp, b, hv⟩
  obtain ⟨t, h, q⟩ := hbody f cdv A outer s H vs Q E hr hsp
  exact ⟨t, h.nox, q⟩
end
/-! ### paths -/
def isPathD (ag : Bool) : PyData → Bool
  | .tuple xs => !(decide (xs.length = 0) || (!ag && decide (1 < xs.length))) && xs.all isCallD
  | _ => false
end WP

set_option Elab.async false
set_option linter.all false
set_option maxRecDepth 100000
set_option maxHeartbeats 4000000
namespace WP
open PySem PySem.Spec PyProof.Rows L2
local macro_rules | `(tactic| walk_at "rd") => `(tactic| repeat (first
  | with_reducible refine r_seq ?_ | with_reducible refine r_var rfl ?_ | with_reducible refine r_c ?_ | with_reducible refine r_op ?_ | with_reducible refine r_cons ?_ | with_reducible refine r_nil ?_
  | with_reducible refine r_cb ?_ | with_reducible refine r_call ?_ | with_reducible refine r_test ?_ | with_reducible refine r_B ?_ | with_reducible refine r_bl ?_ | with_reducible refine r_asg ?_ | with_reducible refine r_asgS ?_
  | with_reducible refine r_ret ?_ | with_reducible refine r_drop ?_ | with_reducible refine r_ifS ?_ | with_reducible refine r_if ?_ | with_reducible refine r_and ?_ | with_reducible refine r_or ?_ | with_reducible refine r_not ?_
  | with_reducible refine r_andV ?_ | with_reducible refine r_orV ?_ | with_reducible refine r_notV ?_ | with_reducible refine r_chain ?_ | with_reducible refine r_sl ?_ | with_reducible refine r_nopart ?_ | with_reducible refine r_part ?_
  | with_reducible refine r_intO ?_ | with_reducible refine r_two ?_ | with_reducible refine r_m1 ?_ | with_reducible refine r_bm ?_ | with_reducible refine r_next ?_ | with_reducible refine r_for ?_ | with_reducible refine r_rng1 ?_ | with_reducible refine r_iList ?_ | with_reducible refine r_iAny ?_ | with_reducible refine r_lc ?_ | with_reducible refine r_yes ?_ | with_reducible refine r_gN ?_ | with_reducible refine r_par ?_ | with_reducible refine r_un ?_ | with_reducible refine r_brk ?_ | with_reducible refine r_cont ?_
  | with_reducible refine r_I0 ?_ | with_reducible refine r_U ?_ | with_reducible refine r_addI ?_ | with_reducible refine r_abs ?_ | with_reducible refine r_intI ?_ | with_reducible refine r_max2 ?_ | with_reducible refine r_min2 ?_
  | with_reducible refine r_ltI ?_ | with_reducible refine r_leI ?_ | with_reducible refine r_gtI ?_ | with_reducible refine r_geI ?_ | with_reducible refine r_isN_non ?_ | with_reducible refine r_isN_int ?_ | with_reducible refine r_isN_str ?_ | with_reducible refine r_isN_bl ?_ | with_reducible refine r_isN_ref ?_ | with_reducible refine r_isN ?_ | with_reducible refine r_isB ?_ | with_reducible refine r_isnotN_non ?_ | with_reducible refine r_isnotN_int ?_ | with_reducible refine r_isnotN_str ?_ | with_reducible refine r_isnotN_bl ?_ | with_reducible refine r_isnotN_ref ?_ | with_reducible refine r_isnotN ?_ | with_reducible refine r_isnotB ?_
  | with_reducible refine r_inS ?_ | with_reducible refine r_eqS rfl ?_ | with_reducible refine r_neS rfl ?_ | with_reducible refine r_lst ?_ | with_reducible refine r_tup ?_ | with_reducible refine iteT ?_ | with_reducible refine iteF ?_))
local macro_rules | `(tactic| walk_at "isi") => `(tactic| (first
  | with_reducible refine r_isi_non_int ?_
  | with_reducible refine r_isi_non_str ?_
  | with_reducible refine r_isi_non_list ?_
  | with_reducible refine r_isi_non_tuple ?_
  | with_reducible refine r_isi_non_bool ?_
  | with_reducible refine r_isi_bl_int ?_
  | with_reducible refine r_isi_bl_str ?_
  | with_reducible refine r_isi_bl_list ?_
  | with_reducible refine r_isi_bl_tuple ?_
  | with_reducible refine r_isi_bl_bool ?_
  | with_reducible refine r_isi_int_int ?_
  | with_reducible refine r_isi_int_str ?_
  | with_reducible refine r_isi_int_list ?_
  | with_reducible refine r_isi_int_tuple ?_
  | with_reducible refine r_isi_int_bool ?_
  | with_reducible refine r_isi_str_int ?_
  | with_reducible refine r_isi_str_str ?_
  | with_reducible refine r_isi_str_list ?_
  | with_reducible refine r_isi_str_tuple ?_
  | with_reducible refine r_isi_str_bool ?_
  | with_reducible refine r_isi_lst_int (SqL.of (by assumption)) ?_
  | with_reducible refine r_isi_lst_str (SqL.of (by assumption)) ?_
  | with_reducible refine r_isi_lst_list (SqL.of (by assumption)) ?_
  | with_reducible refine r_isi_lst_tuple (SqL.of (by assumption)) ?_
  | with_reducible refine r_isi_lst_bool (SqL.of (by assumption)) ?_
  | with_reducible refine r_isi_tup_int (SqT.of (by assumption)) ?_
  | with_reducible refine r_isi_tup_str (SqT.of (by assumption)) ?_
  | with_reducible refine r_isi_tup_list (SqT.of (by assumption)) ?_
  | with_reducible refine r_isi_tup_tuple (SqT.of (by assumption)) ?_
  | with_reducible refine r_isi_tup_bool (SqT.of (by assumption)) ?_))
local macro_rules | `(tactic| walk_at "rs") => `(tactic| (first
  | ((with_reducible refine iteTc ?hc ?_); (case hc => rfl)) | ((with_reducible refine iteFc ?hc ?_); (case hc => rfl))
  | walk_at "isi"
  | refine r_ixL (SqL.of (by assumption)) rfl ?_ | refine r_ixL (SqL.of upd_same) rfl ?_
  | refine r_I (C := fun _ j => 0 < j) (by first | decide | assumption | omega) ?_
  | refine r_mulI (.inl ⟨by decide, by decide⟩) ?_ | refine r_mulI (.inr ⟨by decide, by decide⟩) ?_ | refine r_mulI (.inr ⟨by omega, by omega⟩) ?_ | refine r_mulI (.inl ⟨by omega, by omega⟩) ?_
  | refine r_I (wide_div (b := 64) (by decide) (by decide) (by decide) (by decide)) ?_
  | refine r_I (C := CPow) ⟨by decide, by decide, by decide⟩ ?_
  | refine r_setL (by assumption) rfl ?_ | refine r_setL upd_same rfl ?_))
local macro_rules | `(tactic| walk_at "rx") => `(tactic| (walk_at "rd"; (repeat (walk_at "rs"; walk_at "rd"))))

def top (i : Nat) : Stmt := PySem.Challenge.pw_whatpasses_k10_paths_known.main.body.getD i (.Pass ⟨0, 0, 0, 0⟩)
abbrev s_is_word : Stmt := top 2
abbrev N_is_word : List Str := ["thing", "most", "sign"]
theorem sc_is_word : FnScope N_is_word ["thing", "most"] (defScope s_is_word) := ⟨rfl, rfl, rfl, by decide +kernel, rfl, by decide +kernel, by decide +kernel⟩
def spWordP (K : PySem.W.Frag) : Sp := fun vs H Q _ => ∃ (v : V) (d : PyData) (m : Int), vs = [v, .int m] ∧ Dp K H v d ∧ fit d = true ∧ ∀ H', Evl.Ex H H' → Q (.bl (isWordD m d)) H'
theorem smallE : ("abcdefghijklmnopqrstuvwxyz" : Str).cps.toList = smallL := by decide +kernel
section
variable {P : Program} {w : World} {K : PySem.W.Frag} {mg : Str → Option Value} {base : Heap}
theorem b_is_word {f : Addr} {cdv : Value} {A : Around} {outer : List Env} {s : Shared} {H : Hp} {vs : List V} {Q : VK} {E : XK} (B : Bl mg) (g_SMALL : ∃ u, mg "SMALL" = some u ∧ RelV (.str "abcdefghijklmnopqrstuvwxyz") u)
    (hr : Room 0 (A.deeper (envOfC "is_word" (defScope s_is_word) s.heap.objs.size f cdv))) (h : spWordP K vs H Q E) :
    ∃ t, PSs (cxOf L2.CX0 P w K mg base N_is_word "is_word" (defScope s_is_word) f cdv A outer s H E).nox (defBody s_is_word) t ∧ t { nx := fun _ H' => Q .non H', rt := Q } (start N_is_word vs) H := by
  obtain ⟨v, d, m, rfl, hd, hf, k⟩ := h
  refine ⟨_, (pss_one (ps_ret (pe_and (pe_callB (call_isinstanceA K) rfl B.isinstance (by decide +kernel) (pa_cons (pv 0) (pa_cons (pe_bltn (v := .ty "str") rfl B.str (by decide +kernel) rfl) pa_nil))) (pe_and (pe_cmpR op_leA (pe_callB (call_lenA K) rfl B.len (by decide +kernel) (pa_cons (pv 0) pa_nil)) (pv 1) (nomark _)) (pe_one (pe_callB (call_allA K rfl) rfl B.all (by decide +kernel) (pa_cons (pe_lc (own := [("sign", 2)]) rfl sc_is_word.nd (pi_any K (pv 0)) (blkOk_by (N := N_is_word) (sc := defScope s_is_word) (by decide +kernel)) (fun _ _ _ _ _ => (pg_name (i := 2) sc_is_word.nd rfl (Or.inl rfl))) (fun _ _ _ _ _ => pts_nil) (fun _ _ _ _ _ => (pe_cmpR (op_inA K) (pv 2) (C8.pe_gc rfl g_SMALL) (by rfl)))) pa_nil))))))), ?_⟩
  cases hd with
  | lst s r => walk_at "rd"; refine r_isi_lst_str s ?_; walk_at "rx"; exact k _ (Evl.Ex.refl _)
  | tup s r => walk_at "rd"; refine r_isi_tup_str s ?_; walk_at "rx"; exact k _ (Evl.Ex.refl _)
  | str z =>
    have hz := (fit_str hf).1
    walk_at "rx"
    refine r_lenS (by rw [sizeLine_eq]; omega) ?_
    walk_at "rx"
    refine iteD (fun h1 => ?_) (fun h1 => ?_)
    · walk_at "rx"
      refine .inr (.inr ⟨z, rfl, ?_⟩)
      intro D hD
      refine lc_str (z := z) hD (fun c => .bl (decide (c ∈ smallL))) ?_ ?_ ?_ ?_
      · exact fun _ => rfl
      · omega
      · intro c hc H' e1 Q' q
        walk_at "rd"
        rw [smallE]
        exact q _ (Evl.Ex.refl _)
      · intro H' e1 hD2
        walk_at "rd"
        refine r_all (bs := z.cps.toList.map fun c => decide (c ∈ smallL)) (by rw [hD2, List.map_map]; rfl) ?_
        have := k _ e1
        rw [isWordD, isWordS, decide_eq_true h1, Bool.true_and] at this
        rw [List.all_map]
        exact this
    · walk_at "rx"
      have := k _ (Evl.Ex.refl _)
      rw [isWordD, isWordS, decide_eq_false h1, Bool.false_and] at this
      exact this
  | _ => walk_at "rx"; exact k _ (Evl.Ex.refl _)
theorem c_is_word_2 (F : AtD K mg "is_word" s_is_word [.int 30] []) (B : Bl mg) (g_SMALL : ∃ u, mg "SMALL" = some u ∧ RelV (.str "abcdefghijklmnopqrstuvwxyz") u) : CalD P w K mg base 1 "is_word" (spWordP K) [] := by
  refine calD_of (dvs := [.int 30]) F sc_is_word (fun vs H Q E h => ?_) (fun f cdv A outer s H vs Q E hr h => b_is_word B g_SMALL hr h) 2 1 (by simp) rfl (fun T kV doc pm an cdv ct us its h1 h2 => ?_)
  · obtain ⟨v, d, m, rfl, _⟩ := h
    rfl
  · match us, h1, its, h2 with
    | [_, _], _, [_], _ => exact ⟨_, rfl, rfl⟩
theorem c_is_word_1 (F : AtD K mg "is_word" s_is_word [.int 30] []) (B : Bl mg) (g_SMALL : ∃ u, mg "SMALL" = some u ∧ RelV (.str "abcdefghijklmnopqrstuvwxyz") u) : CalD P w K mg base 1 "is_word" (spWordP K) [.int 30] := by
  refine calD_of (dvs := [.int 30]) F sc_is_word (fun vs H Q E h => ?_) (fun f cdv A outer s H vs Q E hr h => b_is_word B g_SMALL hr h) 1 0 (by simp) rfl (fun T kV doc pm an cdv ct us its h1 h2 => ?_)
  · obtain ⟨v, d, m, rfl, _⟩ := h
    rfl
  · match us, h1, its, h2 with
    | [_], _, [_], _ => exact ⟨_, rfl, rfl⟩
end

abbrev s_is_name : Stmt := top 6
abbrev N_is_name : List Str := ["thing"]
theorem sc_is_name : FnScope N_is_name ["thing"] (defScope s_is_name) := ⟨rfl, rfl, rfl, by decide +kernel, rfl, by decide +kernel, by decide +kernel⟩
section
variable {P : Program} {w : World} {K : PySem.W.Frag} {mg : Str → Option Value} {base : Heap}
theorem any_flat (l : List Str) : (l.map V.str).all flatV = true := by
  rw [List.all_eq_true]
  intro v hv
  obtain ⟨z, _, rfl⟩ := List.mem_map.mp hv
  rfl
theorem in_strs (z : Str) : ∀ l : List Str, inV (.str z) (l.map V.str) = l.any fun k => decide (tl k = tl z)
  | [] => rfl
  | k :: r => by
    have h := in_strs z r
    unfold inV at h ⊢
    rw [List.map_cons, List.any_cons, List.any_cons, h]
    congr 1
    show eqV (.str k) (.str z) = _
    unfold eqV
    first
      | exact decide_eq_decide.mpr (by rw [tl_inj])
      | (by_cases e : k = z
         · subst e; simp
         · have : ¬ tl k = tl z := fun q => e (tl_ext q)
           simp [e, this])
theorem c_is_name_ (F : At K mg "is_name" s_is_name) (B : Bl mg) (c_is_word_2 : CalD P w K mg base 1 "is_word" (spWordP K) []) {a : Addr} (g_KEYWORDS : ∃ u, mg "KEYWORDS" = some u ∧ RelV (.ref a) u) (hK : ∀ H, SqT K H a (kwS.map V.str)) : Cal P w K mg base 2 "is_name" (spB1 K isNameD) := by
  refine cal_of F sc_is_name (fun vs H Q E h => ?_) (fun _ _ _ _ _ _ us hl => match us, hl with | [_], _ => rfl) (fun f cdv A outer s H vs Q E hr h => ?_)
  · obtain ⟨v, d, rfl, _⟩ := h
    rfl
  · obtain ⟨v, d, rfl, hd, hf, k⟩ := h
    refine ⟨_, (pss_one (ps_ret (pe_and (pe_cD c_is_word_2 hr (by omega) rfl (pa_cons (pv 0) (pa_cons pe_int pa_nil))) (pe_and (pe_cmpR (op_neA K hr.units) (pv 0) pe_str (nomark _)) (pe_one (pe_cmpR (op_notInA K) (pv 0) (C8.pe_gc rfl g_KEYWORDS) (by rfl))))))), ?_⟩
    walk_at "rd"
    refine ⟨v, d, 12, rfl, hd, hf, fun H1 e1 => ?_⟩
    cases hd with
    | str z =>
      replace k : ∀ H', Evl.Ex H H' → Q (.bl (isWordL (tl z) 12 && (decide (tl z ≠ []) && !(kwS.any fun k => decide (tl k = tl z))))) H' := k
      have e : isWordD 12 (.str z) = isWordL (tl z) 12 := isWordS_L z 12
      rw [e]
      walk_at "rd"
      refine iteB (fun h1 => ?_) (fun h1 => ?_)
      · rw [h1, Bool.true_and] at k
        walk_at "rd"
        refine iteND (fun h2 => ?_) (fun h2 => ?_)
        · rw [decide_eq_true (show tl z ≠ [] from fun e => h2 (by rw [tl_ext (y := "") (e.trans (by decide +kernel))])), Bool.true_and] at k
          walk_at "rd"
          refine .inr ⟨a, _, rfl, .inr (hK _), rfl, any_flat kwS, ?_⟩
          rw [in_strs]
          exact k _ e1
        · rw [decide_eq_false (show ¬ tl z ≠ [] from fun e => e (by injection h2 with h2; rw [h2]; decide +kernel)), Bool.false_and] at k
          walk_at "rd"
          exact k _ e1
      · rw [h1, Bool.false_and] at k
        walk_at "rd"
        exact k _ e1
    | _ => walk_at "rx"; exact k _ e1
end

abbrev s_is_number_text : Stmt := top 7
abbrev N_is_number_text : List Str := ["text", "digits", "sign"]
theorem sc_is_number_text : FnScope N_is_number_text ["text"] (defScope s_is_number_text) := ⟨rfl, rfl, rfl, by decide +kernel, rfl, by decide +kernel, by decide +kernel⟩
def spS1 (f : List Nat → Bool) : Sp := fun vs H Q _ => ∃ z : Str, vs = [.str z] ∧ z.length ≤ 100000 ∧ ∀ H', Evl.Ex H H' → Q (.bl (f (tl z))) H'
theorem digitsE : ("0123456789" : Str).cps.toList = digitsL := by decide +kernel
theorem dashE : ("-" : Str) = ⟨#[45]⟩ := by decide +kernel
section
variable {P : Program} {w : World} {K : PySem.W.Frag} {mg : Str → Option Value} {base : Heap}
theorem str_one_eq (c d : Nat) : (V.str ⟨#[c]⟩ = V.str ⟨#[d]⟩) ↔ c = d := by
  constructor
  · intro e
    injection e with e
    injection e with e
    simpa using e
  · rintro rfl; rfl
theorem c_is_number_text_ (F : At K mg "is_number_text" s_is_number_text) (B : Bl mg) (g_DIGITS : ∃ u, mg "DIGITS" = some u ∧ RelV (.str "0123456789") u) : Cal P w K mg base 1 "is_number_text" (spS1 isNumL) := by
  refine cal_of F sc_is_number_text (fun vs H Q E h => ?_) (fun _ _ _ _ _ _ us hl => match us, hl with | [_], _ => rfl) (fun f cdv A outer s H vs Q E hr h => ?_)
  · obtain ⟨z, rfl, _⟩ := h
    rfl
  · obtain ⟨z, rfl, hz, k⟩ := h
    refine ⟨_, (pss_cons (ps_set (i := 1) sc_is_number_text.nd rfl (Or.inl rfl) (pe_ifExp (pt_val (pe_m1 PySem.F.slot_str_startswith PySem.F.type_str_startswith mt_startswith (pv 0) pe_str)) (pe_slice (sl_A K) (pv 0) (po_some pe_int) po_none) (pv 0)))
  (pss_cons (ps_if (PW.pt (pw_or (pt_not (pt_chain op_leA op_leA pe_int (pe_callB (call_lenA K) rfl B.len (by decide +kernel) (pa_cons (pv 1) pa_nil)) pe_int)) (pw_or1 (pt_not (pt_val (pe_callB (call_allA K rfl) rfl B.all (by decide +kernel) (pa_cons (pe_lc (own := [("sign", 2)]) rfl sc_is_number_text.nd (pi_any K (pv 1)) (blkOk_by (N := N_is_number_text) (sc := defScope s_is_number_text) (by decide +kernel)) (fun _ _ _ _ _ => (pg_name (i := 2) sc_is_number_text.nd rfl (Or.inl rfl))) (fun _ _ _ _ _ => pts_nil) (fun _ _ _ _ _ => (pe_cmpR (op_inA K) (pv 2) (C8.pe_gc rfl g_DIGITS) (by rfl)))) pa_nil)))))))
   (pss_one (ps_ret pe_bl))
   pss_nil)
  (pss_one (ps_ret (pe_or (pe_cmpR (op_neA K hr.units) (pe_ix (ix_A K) (pv 1) pe_int (fun _ _ => rfl)) pe_str (nomark _)) (pe_one (pe_cmpR (op_eqA K hr.units) (pv 0) pe_str (nomark _)))))))), ?_⟩
    have rest : ∀ (D : Ends) (dg : Str) (u : Option V), tl dg = numBody (tl z) → dg.length ≤ 100000 → D.rt = Q →
        tSeq (tIfS (tOr (tNot (tTest (tChain rLeA rLeA (tC (.int 1)) (tCB (rLenA K) (tCons (tVar 1) tNil)) (tC (.int 30))))) (tNot (tB (tCB (rAll K) (tCons (tLc (iAny K (tVar 1)) (gName 2) tYes (tOp (rInA K) (tVar 2) (tC (.str "0123456789"))) (List.map (fun x => x.snd) [(Str.ofString "sign", 2)])) tNil))))) (tRet (tC (.bl false))) tNext)
          (tRet (tOrV (tOp (rNeA K) (tOp (rIx K) (tVar 1) (tC (.int 0))) (tC (.str "0"))) (tOp (rEqA K) (tVar 0) (tC (.str "0"))))) D [some (.str z), some (.str dg), u] H := by
      intro D dg u hdg hdl hD
      have hdl2 := tl_length dg
      rw [isNumL, ← hdg] at k
      walk_at "rd"
      refine r_lenS (by rw [sizeLine_eq]; omega) ?_
      walk_at "rd"
      refine iteD (fun h1 => ?_) (fun h1 => ?_)
      · rw [decide_eq_true (show 1 ≤ (tl dg).length by omega), Bool.true_and] at k
        walk_at "rd"
        refine iteND (fun h2 => ?_) (fun h2 => ?_)
        · rw [decide_eq_false (show ¬ (tl dg).length ≤ 30 by omega), Bool.false_and] at k
          walk_at "rd"
          rw [hD]
          exact k _ (Evl.Ex.refl _)
        · rw [decide_eq_true (show (tl dg).length ≤ 30 by omega), Bool.true_and] at k
          walk_at "rd"
          refine .inr (.inr ⟨dg, rfl, ?_⟩)
          intro D1 hD1
          refine lc_str (z := dg) hD1 (fun c => .bl (decide (c ∈ digitsL))) ?_ ?_ ?_ ?_
          · exact fun _ => rfl
          · omega
          · intro c hc H' e1 Q' q
            walk_at "rd"
            rw [digitsE]
            exact q _ (Evl.Ex.refl _)
          · intro H1 e1 hD2
            walk_at "rd"
            refine r_all (bs := dg.cps.toList.map fun c => decide (c ∈ digitsL)) (by rw [hD2, List.map_map]; rfl) ?_
            rw [List.all_map]
            walk_at "rd"
            refine iteNB (fun h3 => ?_) (fun h3 => ?_)
            · have : (tl dg).all (fun c => decide (c ∈ digitsL)) = false := h3
              rw [this, Bool.false_and] at k
              walk_at "rd"
              rw [hD]
              exact k _ e1
            · have : (tl dg).all (fun c => decide (c ∈ digitsL)) = true := h3
              rw [this, Bool.true_and] at k
              walk_at "rd"
              cases hc : tl dg with
              | nil => rw [hc] at hdl2; simp at hdl2; omega
              | cons c r =>
                rw [hc] at k
                refine r_ixS (c := c) (by rw [sizeLine_eq]; omega) (by show atI (tl dg) 0 = some c; rw [hc]; exact atI_nat (j := 0) rfl) ?_
                walk_at "rd"
                rw [hD]
                refine iteND (fun h4 => ?_) (fun h4 => ?_)
                · have h5 : ¬ (c :: r).head? = some 48 := by
                    intro e
                    have : c = 48 := by simpa using e
                    exact h4 (by rw [this]; decide +kernel)
                  rw [decide_eq_false h5] at k
                  exact k _ e1
                · have h5 : (c :: r).head? = some 48 := by
                    have e0 : ("0" : Str) = ⟨#[48]⟩ := by decide +kernel
                    rw [e0, str_one_eq] at h4
                    rw [h4]; rfl
                  rw [decide_eq_true h5] at k
                  walk_at "rd"
                  have := k _ e1
                  have e6 : decide (V.str z = V.str "0") = decide (tl z = [48]) := decide_eq_decide.mpr ⟨fun e => by injection e with e; rw [e]; decide +kernel, fun e => by rw [tl_ext (y := "0") (e.trans (by decide +kernel))]⟩
                  rw [e6]
                  exact this
      · rw [decide_eq_false (show ¬ 1 ≤ (tl dg).length by omega)] at k
        walk_at "rd"
        refine iteTc rfl ?_
        walk_at "rd"
        rw [hD]
        exact k _ (Evl.Ex.refl _)
    walk_at "rd"
    refine ⟨⟨_, rfl⟩, ?_⟩
    walk_at "rd"
    refine ⟨z, _, rfl, rfl, ?_⟩
    rw [dashE, starts_one]
    walk_at "rd"
    refine iteD (fun h1 => ?_) (fun h1 => ?_)
    · walk_at "rd"
      refine r_slS (by rw [sizeLine_eq]; omega) ?_
      refine rest _ _ _ (by rw [cut_tail, numBody, if_pos h1]) ?_ rfl
      rw [← tl_length, cut_tail, List.length_tail, tl_length]
      omega
    · refine r_var rfl ?_
      exact rest _ _ _ (by rw [numBody, if_neg h1]) hz rfl
end

abbrev s_is_constant_text : Stmt := top 8
abbrev N_is_constant_text : List Str := ["text"]
theorem sc_is_constant_text : FnScope N_is_constant_text ["text"] (defScope s_is_constant_text) := ⟨rfl, rfl, rfl, by decide +kernel, rfl, by decide +kernel, by decide +kernel⟩
section
variable {P : Program} {w : World} {K : PySem.W.Frag} {mg : Str → Option Value} {base : Heap}
theorem quoteE : ("\"" : Str) = ⟨#[34]⟩ := by decide +kernel
theorem c_is_constant_text_ (F : At K mg "is_constant_text" s_is_constant_text) (B : Bl mg) (c_is_word_2 : CalD P w K mg base 1 "is_word" (spWordP K) []) (c_is_number_text : Cal P w K mg base 1 "is_number_text" (spS1 isNumL)) : Cal P w K mg base 2 "is_constant_text" (fun vs H Q E => spS1 isConstL vs H Q E ∧ ∀ z, vs = [.str z] → PyData.strOk z = true) := by
  refine cal_of F sc_is_constant_text (fun vs H Q E h => ?_) (fun _ _ _ _ _ _ us hl => match us, hl with | [_], _ => rfl) (fun f cdv A outer s H vs Q E hr h => ?_)
  · obtain ⟨⟨z, rfl, _⟩, _⟩ := h
    rfl
  · obtain ⟨⟨z, rfl, hz, k⟩, hok⟩ := h
    replace hok := hok z rfl
    refine ⟨_, (pss_cons (ps_if (PW.pt (pw_and (pt_cmpR op_geA (pe_callB (call_lenA K) rfl B.len (by decide +kernel) (pa_cons (pv 0) pa_nil)) pe_int (nomark _)) (pw_and (pt_cmpR (op_eqA K hr.units) (pe_ix (ix_A K) (pv 0) pe_int (fun _ _ => rfl)) pe_str (nomark _)) (pw_and1 (pt_cmpR (op_eqA K hr.units) (pe_ix (ix_A K) (pv 0) (pe_un un_neg pe_int) (fun _ _ => rfl)) pe_str (nomark _))))))
   (pss_one (ps_ret (pe_cD c_is_word_2 hr (by omega) rfl (pa_cons (pe_slice (sl_A K) (pv 0) (po_some pe_int) (po_some (pe_un un_neg pe_int))) (pa_cons pe_int pa_nil)))))
   pss_nil)
  (pss_one (ps_ret (pe_or (pe_cmpR (op_eqA K hr.units) (pv 0) pe_str (nomark _)) (pe_one (pe_cA c_is_number_text hr (by omega) rfl (pa_cons (pv 0) pa_nil))))))), ?_⟩
    have hzl := tl_length z
    have other : ∀ (D : Ends), ¬ (2 ≤ (tl z).length ∧ (tl z).head? = some 34 ∧ (tl z).getLast? = some 34) → D.rt = Q → tRet (tOrV (tOp (rEqA K) (tVar 0) (tC (.str "none"))) (tCall (spS1 isNumL) [] L2.E0 (tCons (tVar 0) tNil))) D [some (.str z)] H := by
      intro D hn hD
      rw [isConstL, if_neg hn] at k
      have e6 : decide (V.str z = V.str "none") = decide (tl z = noneL) := decide_eq_decide.mpr ⟨fun e => by injection e with e; rw [e]; decide +kernel, fun e => by rw [tl_ext (y := "none") (e.trans (by decide +kernel))]⟩
      rw [← e6] at k
      walk_at "rd"
      rw [hD]
      refine iteD (fun h1 => ?_) (fun h1 => ?_)
      · rw [decide_eq_true h1] at k
        exact k _ (Evl.Ex.refl _)
      · rw [decide_eq_false h1] at k
        walk_at "rd"
        exact ⟨z, rfl, hz, fun H' e => k _ e⟩
    walk_at "rd"
    refine r_lenS (by rw [sizeLine_eq]; omega) ?_
    walk_at "rd"
    refine iteD (fun h1 => ?_) (fun h1 => ?_)
    · obtain ⟨c, r, hc⟩ : ∃ c r, tl z = c :: r := by
        cases h : tl z with
        | nil => rw [h] at hzl; simp at hzl; omega
        | cons c r => exact ⟨c, r, rfl⟩
      walk_at "rd"
      refine r_ixS (c := c) (by rw [sizeLine_eq]; omega) (by show atI (tl z) 0 = some c; rw [hc]; exact atI_nat (j := 0) rfl) ?_
      walk_at "rd"
      rw [quoteE]
      refine iteD (fun h2 => ?_) (fun h2 => ?_)
      · rw [str_one_eq] at h2
        have hlast : ∃ e, (tl z).getLast? = some e ∧ atI (tl z) (-1) = some e := by
          rcases List.eq_nil_or_concat (tl z) with h | ⟨i, e, h⟩
          · rw [h] at hc; cases hc
          · rw [List.concat_eq_append] at h
            rw [h]
            exact ⟨e, by simp, atI_last i e⟩
        obtain ⟨e, he1, he2⟩ := hlast
        walk_at "rd"
        refine r_ixS (c := e) (by rw [sizeLine_eq]; omega) he2 ?_
        walk_at "rd"
        refine iteD (fun h3 => ?_) (fun h3 => ?_)
        · rw [str_one_eq] at h3
          rw [isConstL, if_pos ⟨by omega, by rw [hc, h2]; rfl, by rw [he1, h3]⟩] at k
          walk_at "rd"
          refine r_slS (by rw [sizeLine_eq]; omega) ?_
          walk_at "rd"
          have hcl : (cutS z (some 1) (some (-1))).length ≤ 100000 := by
            rw [← tl_length, cut_mid, List.length_dropLast, List.length_tail]
            omega
          have hcok : PyData.strOk (cutS z (some 1) (some (-1))) = true := by
            refine str_ok fun d hd => ?_
            have hd2 : d ∈ tl (cutS z (some 1) (some (-1))) := hd
            rw [cut_mid] at hd2
            have hd3 : d ∈ tl z := List.mem_of_mem_tail ((List.dropLast_sublist _).subset hd2)
            unfold PyData.strOk at hok
            rw [← Array.all_toList, List.all_eq_true] at hok
            exact of_decide_eq_true (hok d hd3)
          refine ⟨_, _, 8, rfl, .str _, by rw [fit, hcok, Bool.and_true]; exact decide_eq_true hcl, fun H' e => ?_⟩
          have e8 : isWordD 8 (.str (cutS z (some 1) (some (-1)))) = isWordL (tl z).tail.dropLast 8 := by
            rw [← cut_mid]
            exact isWordS_L _ 8
          rw [e8]
          exact k _ e
        · refine r_next ?_
          refine other _ ?_ rfl
          rintro ⟨_, _, h⟩
          rw [he1] at h
          injection h with h
          exact h3 (by rw [h])
      · refine iteF (r_next (other _ ?_ rfl))
        rintro ⟨_, h, _⟩
        rw [hc] at h
        have : c = 34 := by simpa using h
        exact h2 (by rw [this])
    · refine iteF (r_next (other _ ?_ rfl))
      rintro ⟨h, _⟩
      omega
end

end WP

set_option Elab.async false
set_option linter.all false
set_option maxRecDepth 100000
set_option maxHeartbeats 4000000
namespace WP
open PySem PySem.Spec PyProof.Rows L2
local macro_rules | `(tactic| walk_at "rd") => `(tactic| repeat (first
  | with_reducible refine r_seq ?_ | with_reducible refine r_tru ?_ | with_reducible refine r_var rfl ?_ | with_reducible refine r_c ?_ | with_reducible refine r_op ?_ | with_reducible refine r_cons ?_ | with_reducible refine r_nil ?_
  | with_reducible refine r_cb ?_ | with_reducible refine r_call ?_ | with_reducible refine r_test ?_ | with_reducible refine r_B ?_ | with_reducible refine r_bl ?_ | with_reducible refine r_asg ?_ | with_reducible refine r_asgS ?_
  | with_reducible refine r_ret ?_ | with_reducible refine r_drop ?_ | with_reducible refine r_ifS ?_ | with_reducible refine r_if ?_ | with_reducible refine r_and ?_ | with_reducible refine r_or ?_ | with_reducible refine r_not ?_
  | with_reducible refine r_andV ?_ | with_reducible refine r_orV ?_ | with_reducible refine r_notV ?_ | with_reducible refine r_chain ?_ | with_reducible refine r_sl ?_ | with_reducible refine r_nopart ?_ | with_reducible refine r_part ?_
  | with_reducible refine r_intO ?_ | with_reducible refine r_two ?_ | with_reducible refine r_m1 ?_ | with_reducible refine r_bm ?_ | with_reducible refine r_next ?_ | with_reducible refine r_gCons ?_ | with_reducible refine r_gNil ?_ | with_reducible refine r_asgT ?_ | with_reducible refine r_for ?_ | with_reducible refine r_rng1 ?_ | with_reducible refine r_iList ?_ | with_reducible refine r_iAny ?_ | with_reducible refine r_lc ?_ | with_reducible refine r_yes ?_ | with_reducible refine r_gN ?_ | with_reducible refine r_par ?_ | with_reducible refine r_un ?_ | with_reducible refine r_brk ?_ | with_reducible refine r_cont ?_
  | with_reducible refine r_I0 ?_ | with_reducible refine r_U ?_ | with_reducible refine r_addI ?_ | with_reducible refine r_abs ?_ | with_reducible refine r_intI ?_ | with_reducible refine r_max2 ?_ | with_reducible refine r_min2 ?_
  | with_reducible refine r_ltI ?_ | with_reducible refine r_leI ?_ | with_reducible refine r_gtI ?_ | with_reducible refine r_geI ?_ | with_reducible refine r_isN_non ?_ | with_reducible refine r_isN_int ?_ | with_reducible refine r_isN_str ?_ | with_reducible refine r_isN_bl ?_ | with_reducible refine r_isN_ref ?_ | with_reducible refine r_isN ?_ | with_reducible refine r_isB ?_ | with_reducible refine r_isnotN_non ?_ | with_reducible refine r_isnotN_int ?_ | with_reducible refine r_isnotN_str ?_ | with_reducible refine r_isnotN_bl ?_ | with_reducible refine r_isnotN_ref ?_ | with_reducible refine r_isnotN ?_ | with_reducible refine r_isnotB ?_
  | with_reducible refine r_inS ?_ | with_reducible refine r_eqS rfl ?_ | with_reducible refine r_neS rfl ?_ | with_reducible refine r_lst ?_ | with_reducible refine r_tup ?_ | with_reducible refine iteT ?_ | with_reducible refine iteF ?_))
local macro_rules | `(tactic| walk_at "isi") => `(tactic| (first
  | with_reducible refine r_isi_non_int ?_
  | with_reducible refine r_isi_non_str ?_
  | with_reducible refine r_isi_non_list ?_
  | with_reducible refine r_isi_non_tuple ?_
  | with_reducible refine r_isi_non_bool ?_
  | with_reducible refine r_isi_bl_int ?_
  | with_reducible refine r_isi_bl_str ?_
  | with_reducible refine r_isi_bl_list ?_
  | with_reducible refine r_isi_bl_tuple ?_
  | with_reducible refine r_isi_bl_bool ?_
  | with_reducible refine r_isi_int_int ?_
  | with_reducible refine r_isi_int_str ?_
  | with_reducible refine r_isi_int_list ?_
  | with_reducible refine r_isi_int_tuple ?_
  | with_reducible refine r_isi_int_bool ?_
  | with_reducible refine r_isi_str_int ?_
  | with_reducible refine r_isi_str_str ?_
  | with_reducible refine r_isi_str_list ?_
  | with_reducible refine r_isi_str_tuple ?_
  | with_reducible refine r_isi_str_bool ?_
  | with_reducible refine r_isi_lst_int (SqL.of (by assumption)) ?_
  | with_reducible refine r_isi_lst_str (SqL.of (by assumption)) ?_
  | with_reducible refine r_isi_lst_list (SqL.of (by assumption)) ?_
  | with_reducible refine r_isi_lst_tuple (SqL.of (by assumption)) ?_
  | with_reducible refine r_isi_lst_bool (SqL.of (by assumption)) ?_
  | with_reducible refine r_isi_tup_int (SqT.of (by assumption)) ?_
  | with_reducible refine r_isi_tup_str (SqT.of (by assumption)) ?_
  | with_reducible refine r_isi_tup_list (SqT.of (by assumption)) ?_
  | with_reducible refine r_isi_tup_tuple (SqT.of (by assumption)) ?_
  | with_reducible refine r_isi_tup_bool (SqT.of (by assumption)) ?_))
local macro_rules | `(tactic| walk_at "rs") => `(tactic| (first
  | ((with_reducible refine iteTc ?hc ?_); (case hc => rfl)) | ((with_reducible refine iteFc ?hc ?_); (case hc => rfl))
  | walk_at "isi"
  | refine r_ixL (SqL.of (by assumption)) rfl ?_ | refine r_ixL (SqL.of upd_same) rfl ?_
  | refine r_I (C := fun _ j => 0 < j) (by first | decide | assumption | omega) ?_
  | refine r_mulI (.inl ⟨by decide, by decide⟩) ?_ | refine r_mulI (.inr ⟨by decide, by decide⟩) ?_ | refine r_mulI (.inr ⟨by omega, by omega⟩) ?_ | refine r_mulI (.inl ⟨by omega, by omega⟩) ?_
  | refine r_I (wide_div (b := 64) (by decide) (by decide) (by decide) (by decide)) ?_
  | refine r_I (C := CPow) ⟨by decide, by decide, by decide⟩ ?_
  | refine r_setL (by assumption) rfl ?_ | refine r_setL upd_same rfl ?_))
local macro_rules | `(tactic| walk_at "rx") => `(tactic| (walk_at "rd"; (repeat (walk_at "rs"; walk_at "rd"))))

abbrev s_is_call : Stmt := top 9
abbrev N_is_call : List Str := ["thing", "name", "sign", "rest", "words", "word"]
theorem sc_is_call : FnScope N_is_call ["thing"] (defScope s_is_call) := ⟨rfl, rfl, rfl, by decide +kernel, rfl, by decide +kernel, by decide +kernel⟩
section
variable {P : Program} {w : World} {K : PySem.W.Frag} {mg : Str → Option Value} {base : Heap}
theorem shutE : (")" : Str) = ⟨#[41]⟩ := by decide +kernel
theorem openE : ("(" : Str) = SX.S [40] := by decide +kernel
theorem commaE : (", " : Str) = SX.S [44, 32] := by decide +kernel
def cV : V → V
  | .str z => .bl (isConstL (tl z))
  | _ => .bl false
theorem c_is_call_ (F : At K mg "is_call" s_is_call) (B : Bl mg) (c_is_name : Cal P w K mg base 2 "is_name" (spB1 K isNameD)) (c_is_constant_text : Cal P w K mg base 2 "is_constant_text" (fun vs H Q E => spS1 isConstL vs H Q E ∧ ∀ z, vs = [.str z] → PyData.strOk z = true)) : Cal P w K mg base 3 "is_call" (spB1 K isCallD) := by
  refine cal_of F sc_is_call (fun vs H Q E h => ?_) (fun _ _ _ _ _ _ us hl => match us, hl with | [_], _ => rfl) (fun f cdv A outer s H vs Q E hr h => ?_)
  · obtain ⟨v, d, rfl, _⟩ := h
    rfl
  · obtain ⟨v, d, rfl, hd, hf, k⟩ := h
    refine ⟨_, (pss_cons (ps_if (PW.pt (pw_or (pt_not (pt_val (pe_callB (call_isinstanceA K) rfl B.isinstance (by decide +kernel) (pa_cons (pv 0) (pa_cons (pe_bltn (v := .ty "str") rfl B.str (by decide +kernel) rfl) pa_nil))))) (pw_or1 (pt_not (pt_val (pe_m1 PySem.F.slot_str_endswith PySem.F.type_str_endswith mt_endswith (pv 0) pe_str))))))
   (pss_one (ps_ret pe_bl))
   pss_nil)
  (pss_cons (ps_asg (pe_partition (pe_slice (sl_A K) (pv 0) po_none (po_some (pe_un un_neg pe_int))) pe_str) (pg_tupA K (pg_tup rfl (pgs_cons (pg_name (i := 1) sc_is_call.nd rfl (Or.inl rfl)) (pgs_cons (pg_name (i := 2) sc_is_call.nd rfl (Or.inl rfl)) (pgs_cons (pg_name (i := 3) sc_is_call.nd rfl (Or.inl rfl)) pgs_nil))))))
  (pss_cons (ps_if (PW.pt (pw_or (pt_cmpR (op_eqA K hr.units) (pv 2) pe_str (nomark _)) (pw_or1 (pt_not (pt_val (pe_cA c_is_name hr (by omega) rfl (pa_cons (pv 1) pa_nil)))))))
   (pss_one (ps_ret pe_bl))
   pss_nil)
  (pss_cons (ps_set (i := 4) sc_is_call.nd rfl (Or.inl rfl) (pe_ifExp (pt_cmpR (op_neA K hr.units) (pv 3) pe_str (nomark _)) (pe_split (pv 3) pe_str) (pe_lst pa_nil)))
  (pss_one (ps_ret (pe_and (pe_cmpR op_leA (pe_callB (call_lenA K) rfl B.len (by decide +kernel) (pa_cons (pv 4) pa_nil)) pe_int (nomark _)) (pe_one (pe_callB (call_allA K rfl) rfl B.all (by decide +kernel) (pa_cons (pe_lc (own := [("word", 5)]) rfl sc_is_call.nd (pi_any K (pv 4)) (blkOk_by (N := N_is_call) (sc := defScope s_is_call) (by decide +kernel)) (fun _ _ _ _ _ => (pg_name (i := 5) sc_is_call.nd rfl (Or.inl rfl))) (fun _ _ _ _ _ => pts_nil) (fun _ _ _ _ _ => (pe_cA c_is_constant_text hr (by omega) rfl (pa_cons (pv 5) pa_nil)))) pa_nil)))))))))), ?_⟩
    cases hd with
    | lst s r => walk_at "rd"; refine r_isi_lst_str s ?_; walk_at "rx"; exact k _ (Evl.Ex.refl _)
    | tup s r => walk_at "rd"; refine r_isi_tup_str s ?_; walk_at "rx"; exact k _ (Evl.Ex.refl _)
    | str z =>
      obtain ⟨hz, hok⟩ := fit_str hf
      rw [strOk_iff] at hok
      have hzl := tl_length z
      replace k : ∀ H', Evl.Ex H H' → Q (.bl (isCallL (tl z))) H' := k
      rw [isCallL] at k
      walk_at "rx"
      refine ⟨⟨_, rfl⟩, ?_⟩
      walk_at "rd"
      refine ⟨z, _, rfl, rfl, ?_⟩
      rw [shutE, ends_one]
      walk_at "rd"
      refine iteND (fun h1 => ?_) (fun h1 => ?_)
      · rw [decide_eq_false h1, Bool.false_and] at k
        walk_at "rd"
        exact k _ (Evl.Ex.refl _)
      · rw [decide_eq_true h1, Bool.true_and] at k
        walk_at "rd"
        refine r_slS (by rw [sizeLine_eq]; omega) ?_
        have hci : tl (cutS z none (some (-1))) = (tl z).dropLast := cut_init z
        generalize hct : cutS z none (some (-1)) = ct at hci
        have hctl : ct.length ≤ 100000 := by rw [← tl_length, hci, List.length_dropLast]; omega
        have hcc : ∀ c ∈ tl ct, c < 1114112 := fun c hc => hok c (by rw [hci] at hc; exact (List.dropLast_sublist _).subset hc)
        rw [← hci] at k
        refine ⟨⟨_, rfl⟩, ?_⟩
        walk_at "rd"
        refine ⟨ct, _, rfl, rfl, by decide +kernel, by rw [sizeLine_eq]; omega, fun p hp => ?_⟩
        rw [openE]
        have eS : ct = SX.S (tl ct) := (str_eta ct).symm
        cases hpar : TL.par [40] [] (tl ct) with
        | none =>
          have e := SX.partition_none (a := tl ct) (b := [40]) (by simp) hpar
          rw [← eS] at e
          rw [e]
          dsimp only
          rw [hpar] at k
          refine r_gTup (SqT.of upd_same) rfl ?_
          walk_at "rd"
          refine iteY (by decide +kernel) ?_
          walk_at "rd"
          exact k _ (Evl.Ex.new hp)
        | some nr =>
          obtain ⟨nm, rs⟩ := nr
          have e := SX.partition_some (a := tl ct) (b := [40]) (by simp) hpar
          rw [← eS] at e
          rw [e]
          dsimp only
          rw [hpar] at k
          dsimp only at k
          obtain ⟨m1, m2, m3, m4⟩ := par_mem _ _ _ _ hpar
          have hctl2 := tl_length ct
          rw [List.length_nil, Nat.zero_add] at m3
          refine r_gTup (SqT.of upd_same) rfl ?_
          walk_at "rd"
          refine iteN (by decide +kernel) ?_
          walk_at "rd"
          have hfn : fit (.str (SX.S nm)) = true := fit_of (by show nm.length ≤ _; omega) (fun c hc => by rcases m1 c hc with h | h; cases h; exact hcc c h)
          refine ⟨_, _, rfl, .str (SX.S nm), hfn, fun H1 e1 => ?_⟩
          walk_at "rd"
          have en : isNameD (.str (SX.S nm)) = isNameL nm := rfl
          rw [en]
          refine iteNB (fun h2 => ?_) (fun h2 => ?_)
          · rw [h2, Bool.false_and] at k
            walk_at "rd"
            exact k _ ((Evl.Ex.new hp).trans e1)
          · rw [h2, Bool.true_and] at k
            walk_at "rd"
            have e01 := (Evl.Ex.new (o := .tup [.str (SX.S nm), .str (SX.S [40]), .str (SX.S rs)]) hp).trans e1
            have hrs : ∀ c ∈ rs, c < 1114112 := fun c hc => hcc c (m2 c hc)
            -- words
            have tail : ∀ (D : Ends) (W : Addr) (H2 : Hp) (u0 u1 u2 u3 u5 : Option V), Evl.Ex H1 H2 → H2 W = some (.lst ((wordsL rs).map fun p => V.str (SX.S p))) → D.rt = Q →
                tRet (tAndV (tOp rLeA (tCB (rLenA K) (tCons (tVar 4) tNil)) (tC (.int 3))) (tCB (rAll K) (tCons (tLc (iAny K (tVar 4)) (gName 5) tYes (tCall (fun vs H Q E => spS1 isConstL vs H Q E ∧ ∀ z, vs = [.str z] → PyData.strOk z = true) [] L2.E0 (tCons (tVar 5) tNil)) (List.map (fun x => x.snd) [(Str.ofString "word", 5)])) tNil))) D [u0, u1, u2, u3, some (.ref W), u5] H2 := by
              intro D W H2 u0 u1 u2 u3 u5 e2 hW hD
              have hwm : ∀ p ∈ wordsL rs, p.length ≤ rs.length ∧ ∀ c ∈ p, c ∈ rs := by
                intro p hp
                unfold wordsL at hp
                split at hp
                · cases hp
                · obtain ⟨h1, h2⟩ := spl_mem _ _ _ _ hp
                  exact ⟨by simpa using h1, fun c hc => by rcases h2 c hc with h | h; cases h; exact h⟩
              walk_at "rd"
              refine r_lenL (SqL.of hW) ?_
              walk_at "rd"
              rw [List.length_map]
              refine iteD (fun h3 => ?_) (fun h3 => ?_)
              · rw [decide_eq_true (show (wordsL rs).length ≤ 3 by omega), Bool.true_and] at k
                walk_at "rd"
                refine .inl ⟨W, rfl, ⟨_, SqL.of hW⟩, ?_⟩
                intro D1 hD1
                refine lc_seq (K := K) (a := W) hD1 cV (SqL.of hW) ?_ ?_ ?_ ?_
                · exact fun _ => rfl
                · rw [List.length_map]; omega
                · intro v hv H' e1 Q' q
                  obtain ⟨p, hpm, rfl⟩ := List.mem_map.mp hv
                  obtain ⟨w1, w2⟩ := hwm p hpm
                  walk_at "rd"
                  refine ⟨⟨SX.S p, rfl, by rw [SX.S_len]; omega, fun H' e => q _ e⟩, fun z hz => ?_⟩
                  have : z = SX.S p := by simpa using hz.symm
                  rw [this, strOk_iff]
                  exact fun c hc => hrs c (w2 c hc)
                · intro H' e3 hD2
                  walk_at "rd"
                  refine r_all (bs := (wordsL rs).map isConstL) (by rw [hD2, List.map_map, List.map_map]; rfl) ?_
                  rw [List.all_map, hD]
                  exact k _ ((e01.trans e2).trans e3)
              · rw [decide_eq_false (show ¬ (wordsL rs).length ≤ 3 by omega), Bool.false_and] at k
                walk_at "rd"
                rw [hD]
                exact k _ (e01.trans e2)
            refine iteND (fun h3 => ?_) (fun h3 => ?_)
            · walk_at "rd"
              refine ⟨⟨_, rfl⟩, ?_⟩
              walk_at "rd"
              refine ⟨_, _, rfl, rfl, by decide +kernel, by rw [SX.S_len, sizeLine_eq]; omega, fun W hW => ?_⟩
              refine tail _ W _ _ _ _ _ _ (Evl.Ex.new hW) ?_ rfl
              have hne : rs ≠ [] := fun e => h3 (by subst e; decide +kernel)
              rw [upd_same, commaE, SX.split_S (by simp) (by decide), wordsL, if_neg hne, List.map_map]
              rfl
            · walk_at "rd"
              refine ⟨Nat.zero_le _, fun W hW => ?_⟩
              refine tail _ W _ _ _ _ _ _ (Evl.Ex.new hW) ?_ rfl
              have hne : rs = [] := by
                injection h3 with h3
                have : tl (SX.S rs) = tl ("" : Str) := by rw [h3]
                exact this.trans (by decide +kernel)
              rw [upd_same, wordsL, if_pos hne]
              rfl
    | _ => walk_at "rx"; exact k _ (Evl.Ex.refl _)
end

end WP

set_option Elab.async false
set_option linter.all false
set_option maxRecDepth 100000
set_option maxHeartbeats 4000000
namespace WP
open PySem PySem.Spec PyProof.Rows L2
local macro_rules | `(tactic| walk_at "rd") => `(tactic| repeat (first
  | with_reducible refine r_seq ?_ | with_reducible refine r_tru ?_ | with_reducible refine r_var rfl ?_ | with_reducible refine r_c ?_ | with_reducible refine r_op ?_ | with_reducible refine r_cons ?_ | with_reducible refine r_nil ?_
  | with_reducible refine r_cb ?_ | with_reducible refine r_call ?_ | with_reducible refine r_test ?_ | with_reducible refine r_B ?_ | with_reducible refine r_bl ?_ | with_reducible refine r_asg ?_ | with_reducible refine r_asgS ?_
  | with_reducible refine r_ret ?_ | with_reducible refine r_drop ?_ | with_reducible refine r_ifS ?_ | with_reducible refine r_if ?_ | with_reducible refine r_and ?_ | with_reducible refine r_or ?_ | with_reducible refine r_not ?_
  | with_reducible refine r_andV ?_ | with_reducible refine r_orV ?_ | with_reducible refine r_notV ?_ | with_reducible refine r_chain ?_ | with_reducible refine r_sl ?_ | with_reducible refine r_nopart ?_ | with_reducible refine r_part ?_
  | with_reducible refine r_intO ?_ | with_reducible refine r_two ?_ | with_reducible refine r_m1 ?_ | with_reducible refine r_bm ?_ | with_reducible refine r_next ?_ | with_reducible refine r_gCons ?_ | with_reducible refine r_gNil ?_ | with_reducible refine r_asgT ?_ | with_reducible refine r_for ?_ | with_reducible refine r_rng1 ?_ | with_reducible refine r_iList ?_ | with_reducible refine r_iAny ?_ | with_reducible refine r_lc ?_ | with_reducible refine r_yes ?_ | with_reducible refine r_gN ?_ | with_reducible refine r_par ?_ | with_reducible refine r_un ?_ | with_reducible refine r_brk ?_ | with_reducible refine r_cont ?_
  | with_reducible refine r_I0 ?_ | with_reducible refine r_U ?_ | with_reducible refine r_addI ?_ | with_reducible refine r_abs ?_ | with_reducible refine r_intI ?_ | with_reducible refine r_max2 ?_ | with_reducible refine r_min2 ?_
  | with_reducible refine r_ltI ?_ | with_reducible refine r_leI ?_ | with_reducible refine r_gtI ?_ | with_reducible refine r_geI ?_ | with_reducible refine r_isN_non ?_ | with_reducible refine r_isN_int ?_ | with_reducible refine r_isN_str ?_ | with_reducible refine r_isN_bl ?_ | with_reducible refine r_isN_ref ?_ | with_reducible refine r_isN ?_ | with_reducible refine r_isB ?_ | with_reducible refine r_isnotN_non ?_ | with_reducible refine r_isnotN_int ?_ | with_reducible refine r_isnotN_str ?_ | with_reducible refine r_isnotN_bl ?_ | with_reducible refine r_isnotN_ref ?_ | with_reducible refine r_isnotN ?_ | with_reducible refine r_isnotB ?_
  | with_reducible refine r_inS ?_ | with_reducible refine r_eqS rfl ?_ | with_reducible refine r_neS rfl ?_ | with_reducible refine r_lst ?_ | with_reducible refine r_tup ?_ | with_reducible refine iteT ?_ | with_reducible refine iteF ?_))
local macro_rules | `(tactic| walk_at "isi") => `(tactic| (first
  | with_reducible refine r_isi_non_int ?_
  | with_reducible refine r_isi_non_str ?_
  | with_reducible refine r_isi_non_list ?_
  | with_reducible refine r_isi_non_tuple ?_
  | with_reducible refine r_isi_non_bool ?_
  | with_reducible refine r_isi_bl_int ?_
  | with_reducible refine r_isi_bl_str ?_
  | with_reducible refine r_isi_bl_list ?_
  | with_reducible refine r_isi_bl_tuple ?_
  | with_reducible refine r_isi_bl_bool ?_
  | with_reducible refine r_isi_int_int ?_
  | with_reducible refine r_isi_int_str ?_
  | with_reducible refine r_isi_int_list ?_
  | with_reducible refine r_isi_int_tuple ?_
  | with_reducible refine r_isi_int_bool ?_
  | with_reducible refine r_isi_str_int ?_
  | with_reducible refine r_isi_str_str ?_
  | with_reducible refine r_isi_str_list ?_
  | with_reducible refine r_isi_str_tuple ?_
  | with_reducible refine r_isi_str_bool ?_
  | with_reducible refine r_isi_lst_int (SqL.of (by assumption)) ?_
  | with_reducible refine r_isi_lst_str (SqL.of (by assumption)) ?_
  | with_reducible refine r_isi_lst_list (SqL.of (by assumption)) ?_
  | with_reducible refine r_isi_lst_tuple (SqL.of (by assumption)) ?_
  | with_reducible refine r_isi_lst_bool (SqL.of (by assumption)) ?_
  | with_reducible refine r_isi_tup_int (SqT.of (by assumption)) ?_
  | with_reducible refine r_isi_tup_str (SqT.of (by assumption)) ?_
  | with_reducible refine r_isi_tup_list (SqT.of (by assumption)) ?_
  | with_reducible refine r_isi_tup_tuple (SqT.of (by assumption)) ?_
  | with_reducible refine r_isi_tup_bool (SqT.of (by assumption)) ?_))
local macro_rules | `(tactic| walk_at "rs") => `(tactic| (first
  | ((with_reducible refine iteTc ?hc ?_); (case hc => rfl)) | ((with_reducible refine iteFc ?hc ?_); (case hc => rfl))
  | walk_at "isi"
  | refine r_ixL (SqL.of (by assumption)) rfl ?_ | refine r_ixL (SqL.of upd_same) rfl ?_
  | refine r_I (C := fun _ j => 0 < j) (by first | decide | assumption | omega) ?_
  | refine r_mulI (.inl ⟨by decide, by decide⟩) ?_ | refine r_mulI (.inr ⟨by decide, by decide⟩) ?_ | refine r_mulI (.inr ⟨by omega, by omega⟩) ?_ | refine r_mulI (.inl ⟨by omega, by omega⟩) ?_
  | refine r_I (wide_div (b := 64) (by decide) (by decide) (by decide) (by decide)) ?_
  | refine r_I (C := CPow) ⟨by decide, by decide, by decide⟩ ?_
  | refine r_setL (by assumption) rfl ?_ | refine r_setL upd_same rfl ?_))
local macro_rules | `(tactic| walk_at "rx") => `(tactic| (walk_at "rd"; (repeat (walk_at "rs"; walk_at "rd"))))

/-! ### the draws -/
def spTake : Sp := fun vs H Q _ => ∃ (b : Addr) (m : Int) (n : Nat), vs = [.ref b, .int m] ∧ Bag b n H ∧ n < 1000000000000 ∧ 0 < m ∧ m < 2 ^ 200 ∧
  ∀ (d : Int) (H' : Hp), 0 ≤ d → d < m → Drw b (n + 1) H H' → Q (.int d) H'
abbrev s_law_take : Stmt := top 13
abbrev N_law_take : List Str := ["_law_bag_here", "_law_many", "_law_digit", "_law_mixed"]
theorem sc_law_take : FnScope N_law_take ["_law_bag_here", "_law_many"] (defScope s_law_take) := ⟨rfl, rfl, rfl, by decide +kernel, rfl, by decide +kernel, by decide +kernel⟩
section
variable {P : Program} {w : World} {K : PySem.W.Frag} {mg : Str → Option Value} {base : Heap}
theorem c_take (F : At K mg "_law_take" s_law_take) (B : Bl mg) : Cal P w K mg base 1 "_law_take" spTake := by
  refine cal_of F sc_law_take (fun vs H Q E h => ?_) (fun _ _ _ _ _ _ us hl => match us, hl with | [_, _], _ => rfl) (fun f cdv A outer s H vs Q E hr h => ?_)
  · obtain ⟨b, m, n, rfl, _⟩ := h
    rfl
  · obtain ⟨b, m, n, rfl, ⟨l, hb, x, y, z, rfl, hy0, hy1, hz0, hz1⟩, hn, hm0, hm1, k⟩ := h
    refine ⟨_, (pss_cons (ps_if (pt_cmpR op_gtA (pe_ix (ix_A K) (pv 0) pe_int (fun _ _ => rfl)) pe_int (nomark _))
   (pss_cons (ps_set (i := 2) sc_law_take.nd rfl (Or.inl rfl) (pe_op op_mod (pe_callTy call_intA rfl B.int (by decide +kernel) (pa_cons (pe_ix (ix_A K) (pv 0) pe_int (fun _ _ => rfl)) pa_nil)) (pv 1)))
  (pss_cons (ps_asg (pe_op op_fdivW (pe_ix (ix_A K) (pv 0) pe_int (fun _ _ => rfl)) (pv 1)) (pg_sub (pv 0) pe_int set_list))
  (pss_one (ps_ret (pv 2)))))
   pss_nil)
  (pss_cons (ps_asg (pe_op (op_addA K) (pe_ix (ix_A K) (pv 0) pe_int (fun _ _ => rfl)) pe_int) (pg_sub (pv 0) pe_int set_list))
  (pss_cons (ps_set (i := 3) sc_law_take.nd rfl (Or.inl rfl) (pe_op op_mod (pe_callTy call_intA rfl B.int (by decide +kernel) (pa_cons (pe_op op_mulA (pe_op (op_addA K) (pe_ix (ix_A K) (pv 0) pe_int (fun _ _ => rfl)) (pe_op op_mulA pe_int (pe_ix (ix_A K) (pv 0) pe_int (fun _ _ => rfl)))) (pe_op (op_addA K) (pe_ix (ix_A K) (pv 0) pe_int (fun _ _ => rfl)) pe_int)) pa_nil)) pe_int))
  (pss_one (ps_ret (pe_op op_mod (pe_callTy call_intA rfl B.int (by decide +kernel) (pa_cons (pe_op op_fdivW (pe_op op_mod (pe_callTy call_intA rfl B.int (by decide +kernel) (pa_cons (pe_op op_pow (pe_op (op_addA K) (pv 3) (pe_op op_mulA pe_int (pe_ix (ix_A K) (pv 0) pe_int (fun _ _ => rfl)))) pe_int) pa_nil)) pe_int) pe_int) pa_nil)) (pv 1))))))), ?_⟩
    walk_at "rx"
    refine iteD (fun hx => ?_) (fun hx => ?_)
    · walk_at "rx"
      refine r_I (wide_div (b := 200) hm0 (by omega) (by decide) (by decide)) ?_
      walk_at "rx"
      exact k _ _ (Int.emod_nonneg _ (by omega)) (Int.emod_lt_of_pos _ hm0) ⟨by rw [hid_bag]; exact Evl.Ex.refl _, _, upd_same, _, y, z, rfl, hy0, hy1, hz0, by omega⟩
    · walk_at "rx"
      have h2 : 0 ≤ (y + 40009 * (z + 1)) * (y + 7919) % 2147483647 := Int.emod_nonneg _ (by decide)
      have h3 : (y + 40009 * (z + 1)) * (y + 7919) % 2147483647 < 2147483647 := Int.emod_lt_of_pos _ (by decide)
      refine r_I (C := CPow) ⟨by decide, by decide, ?_⟩ ?_
      · revert h2 h3
        generalize (y + 40009 * (z + 1)) * (y + 7919) % 2147483647 = q
        intro h2 h3
        omega
      walk_at "rx"
      exact k _ _ (Int.emod_nonneg _ (by omega)) (Int.emod_lt_of_pos _ hm0) ⟨by rw [hid_bag]; exact Evl.Ex.refl _, _, upd_same, x, y, z + 1, rfl, hy0, hy1, by omega, by omega⟩
end

section
variable {P : Program} {w : World} {K : PySem.W.Frag} {mg : Str → Option Value} {base : Heap}
/-! one of a list, a tuple, a text -/
def spOf (K : PySem.W.Frag) : Sp := fun vs H Q _ => ∃ (b : Addr) (v : V) (n : Nat), vs = [.ref b, v] ∧ Bag b n H ∧ n < 1000000000000 ∧
  ((∃ (a : Addr) (xs : List V), v = .ref a ∧ SqA K (hid b H) a xs ∧ 0 < xs.length ∧ xs.length ≤ 100000 ∧ ∀ y ∈ xs, ∀ H', Drw b (n + 1) H H' → Q y H') ∨
   (∃ z : Str, v = .str z ∧ 0 < z.length ∧ z.length ≤ 100000 ∧ ∀ c ∈ z.cps.toList, ∀ H', Drw b (n + 1) H H' → Q (.str ⟨#[c]⟩) H'))
abbrev s_law_of : Stmt := top 14
abbrev N_law_of : List Str := ["_law_bag_here", "_law_some"]
theorem sc_law_of : FnScope N_law_of ["_law_bag_here", "_law_some"] (defScope s_law_of) := ⟨rfl, rfl, rfl, by decide +kernel, rfl, by decide +kernel, by decide +kernel⟩
theorem c_of (F : At K mg "_law_of" s_law_of) (B : Bl mg) (c_law_take : Cal P w K mg base 1 "_law_take" spTake) : Cal P w K mg base 2 "_law_of" (spOf K) := by
  refine cal_of F sc_law_of (fun vs H Q E h => ?_) (fun _ _ _ _ _ _ us hl => match us, hl with | [_, _], _ => rfl) (fun f cdv A outer s H vs Q E hr h => ?_)
  · obtain ⟨b, v, n, rfl, _⟩ := h
    rfl
  · obtain ⟨b, v, n, rfl, hb, hn, h⟩ := h
    refine ⟨_, (pss_one (ps_ret (pe_ix (ix_A K) (pv 1) (pe_cA c_law_take hr (by omega) rfl (pa_cons (pv 0) (pa_cons (pe_callB (call_lenA K) rfl B.len (by decide +kernel) (pa_cons (pv 1) pa_nil)) pa_nil))) (fun _ _ => rfl)))), ?_⟩
    walk_at "rd"
    rcases h with ⟨a, xs, rfl, hs, h0, h1, k⟩ | ⟨z, rfl, h0, h1, k⟩
    · have hl : LenV K (.ref a) H xs.length := by
        rcases hs with hs | hs
        · exact .inl ⟨_, Evl.ex_l hid_ex hs, rfl⟩
        · exact .inr ⟨_, Evl.ex_t hid_ex hs, rfl⟩
      refine ⟨_, _, rfl, hl, ?_⟩
      walk_at "rd"
      refine ⟨b, _, n, rfl, hb, hn, by omega, by omega, fun d H' hd0 hd1 hd => ?_⟩
      obtain ⟨j, rfl⟩ := Int.eq_ofNat_of_zero_le hd0
      have hj : j < xs.length := by omega
      have hx : xs[j]? = some xs[j] := List.getElem?_eq_getElem hj
      rcases hs with hs | hs
      · refine r_ixL (Evl.ex_l hid_ex (hd.l hs)) (atI_nat hx) ?_
        exact k _ (List.getElem_mem hj) _ hd
      · refine r_ixT (Evl.ex_t hid_ex (hd.t hs)) (atI_nat hx) ?_
        exact k _ (List.getElem_mem hj) _ hd
    · refine r_lenS (by rw [sizeLine_eq]; omega) ?_
      walk_at "rd"
      refine ⟨b, _, n, rfl, hb, hn, by omega, by omega, fun d H' hd0 hd1 hd => ?_⟩
      obtain ⟨j, rfl⟩ := Int.eq_ofNat_of_zero_le hd0
      have hj : j < z.cps.toList.length := by
        have e : z.cps.toList.length = z.length := by simp [Str.length]
        omega
      refine r_ixS (by rw [sizeLine_eq]; omega) (atI_nat (List.getElem?_eq_getElem hj)) ?_
      exact k _ (List.getElem_mem hj) _ hd
end

section
variable {P : Program} {w : World} {K : PySem.W.Frag} {mg : Str → Option Value} {base : Heap}
/-! a word -/
def spWord : Sp := fun vs H Q _ => ∃ (b : Addr) (m n : Nat), vs = [.ref b, .int (m : Int)] ∧ Bag b n H ∧ n + m + 2 < 1000000000000 ∧ m ≤ 1000 ∧
  ∀ (z : Str) (H' : Hp), Word m z → Drw b (n + m + 2) H H' → Q (.str z) H'
abbrev s_law_word : Stmt := top 16
abbrev N_law_word : List Str := ["_law_bag_here", "_law_most", "_law_turn"]
theorem sc_law_word : FnScope N_law_word ["_law_bag_here", "_law_most"] (defScope s_law_word) := ⟨rfl, rfl, rfl, by decide +kernel, rfl, by decide +kernel, by decide +kernel⟩
theorem small_eq : ("abcdefghijklmnopqrstuvwxyz" : Str).cps.toList = (List.range 26).map (· + 97) := by decide +kernel
theorem small_ok {c : Nat} (h : c ∈ ("abcdefghijklmnopqrstuvwxyz" : Str).cps.toList) : 97 ≤ c ∧ c ≤ 122 := by
  rw [small_eq] at h
  obtain ⟨x, hx, rfl⟩ := List.mem_map.mp h
  have := List.mem_range.mp hx
  omega
theorem tl_join0 : ∀ cs : List Nat, (Txt.join ("" : Str) (cs.map fun c => (⟨#[c]⟩ : Str))).cps.toList = cs := by
  intro cs
  have h : ∀ l : List (List Nat), TL.joinL [] l = l.flatten := by
    intro l
    induction l with
    | nil => rfl
    | cons p r ih =>
      cases r with
      | nil => simp [TL.joinL]
      | cons q r => rw [TL.joinL, ih]; simp
  have e := TL.tl_join ("" : Str) (cs.map fun c => (⟨#[c]⟩ : Str))
  rw [TL.join_eq]
  refine e.trans ?_
  have e2 : TL.tl ("" : Str) = [] := by decide +kernel
  rw [e2, h, List.map_map]
  clear e
  induction cs with
  | nil => rfl
  | cons c r ih =>
    rw [List.map_cons, List.flatten_cons, ih]
    rfl
theorem c_word (F : At K mg "_law_word" s_law_word) (B : Bl mg) (c_law_take : Cal P w K mg base 1 "_law_take" spTake) (c_law_of : Cal P w K mg base 2 "_law_of" (spOf K)) : Cal P w K mg base 3 "_law_word" spWord := by
  refine cal_of F sc_law_word (fun vs H Q E h => ?_) (fun _ _ _ _ _ _ us hl => match us, hl with | [_, _], _ => rfl) (fun f cdv A outer s H vs Q E hr h => ?_)
  · obtain ⟨b, m, n, rfl, _⟩ := h
    rfl
  · obtain ⟨b, m, n, rfl, hb, hn, hm, k⟩ := h
    refine ⟨_, (pss_one (ps_ret (pe_joinA K pe_str (pe_lc (own := [("_law_turn", 2)]) rfl sc_law_word.nd (pi_range1 rfl B.range (pa_cons (pe_cA c_law_take hr (by omega) rfl (pa_cons (pv 0) (pa_cons (pe_op (op_addA K) (pv 1) pe_int) pa_nil))) pa_nil)) (blkOk_by (N := N_law_word) (sc := defScope s_law_word) (by decide +kernel)) (fun _ _ _ _ _ => (pg_name (i := 2) sc_law_word.nd rfl (Or.inl rfl))) (fun _ _ _ _ _ => pts_nil) (fun _ _ _ _ _ => (pe_cA c_law_of hr (by omega) rfl (pa_cons (pv 0) (pa_cons pe_str pa_nil)))))))), ?_⟩
    walk_at "rd"
    refine ⟨⟨_, rfl⟩, ?_⟩
    walk_at "rd"
    refine ⟨b, _, n, rfl, hb, by omega, by omega, by omega, fun d H1 hd0 hd1 hd => ?_⟩
    obtain ⟨j, rfl⟩ := Int.eq_ofNat_of_zero_le hd0
    refine ⟨_, rfl, by omega, by omega, fun D hD => ?_⟩
    have nDb : D ≠ b := by
      obtain ⟨l, h1, _⟩ := hd.bag
      exact (ne_of_none h1 hD).symm
    refine lc_range (lo := 0) (n := (j : Int).toNat) (fun i H' => ∃ cs : List Nat, cs.length = i ∧ (∀ c ∈ cs, 97 ≤ c ∧ c ≤ 122) ∧ H' D = some (.lst (cs.map fun c => V.str ⟨#[c]⟩)) ∧ Drw b (n + 1 + i) H1 H') ?_ ?_ ?_
    · exact ⟨[], rfl, fun _ h => by (cases h), upd_same, (hd.bag.new hD).1⟩
    · rintro i H' hi ⟨cs, hl, hc, h1, h2⟩
      walk_at "rd"
      refine ⟨rfl, ?_⟩
      walk_at "rd"
      refine ⟨b, _, n + 1 + i, rfl, h2.bag, by omega, .inr ⟨_, rfl, by decide +kernel, by decide +kernel, fun c hcm H2 hd2 => ?_⟩⟩
      have hD2 : H2 D = some (.lst (cs.map fun c => V.str ⟨#[c]⟩)) := hid_get (hd2.ex _ _ (hid_of h1 nDb))
      refine ⟨_, hD2, by rw [sizeLine_eq, List.length_map]; omega, cs ++ [c], by simp [hl], ?_, ?_, ?_⟩
      · intro x hx
        rcases List.mem_append.mp hx with hx | hx
        · exact hc x hx
        · rw [List.mem_singleton.mp hx]
          exact small_ok hcm
      · rw [upd_same, List.map_append]; rfl
      · exact (Drw.put (h2.trans hd2) (hid_none hD) nDb).mono (by omega)
    · rintro H' ⟨cs, hl, hc, h1, h2⟩
      have e1 : cs.map (fun c => V.str ⟨#[c]⟩) = (cs.map fun c => (⟨#[c]⟩ : Str)).map V.str := by rw [List.map_map]; rfl
      refine ⟨_, _, _, rfl, rfl, .inl (SqL.of (by rw [← e1]; exact h1)), ?_, ?_⟩
      · rw [List.map_map, List.length_map]
        have e2 : (cs.map ((fun (x : Str) => x.length) ∘ fun c => (⟨#[c]⟩ : Str))).sum = cs.length := by
          have : ∀ l : List Nat, (l.map ((fun (x : Str) => x.length) ∘ fun c => (⟨#[c]⟩ : Str))).sum = l.length := by
            intro l
            induction l with
            | nil => rfl
            | cons a r ih => rw [List.map_cons, List.sum_cons, ih, List.length_cons]; show 1 + r.length = _; omega
          exact this cs
        rw [e2]
        have e3 : ("" : Str).length = 0 := by decide +kernel
        rw [e3]
        omega
      · refine k _ _ ⟨?_, ?_⟩ ((hd.trans h2).mono (by omega))
        · have := congrArg List.length (tl_join0 cs)
          rw [show (Txt.join ("" : Str) (cs.map fun c => (⟨#[c]⟩ : Str))).length = (Txt.join ("" : Str) (cs.map fun c => (⟨#[c]⟩ : Str))).cps.toList.length from by simp [Str.length], this]
          omega
        · rw [tl_join0]
          exact hc
end

section
variable {P : Program} {w : World} {K : PySem.W.Frag} {mg : Str → Option Value} {base : Heap}
/-! a number -/
def spNumber : Sp := fun vs H Q _ => ∃ (b a : Addr) (n : Nat) (ns : List Int), vs = [.ref b, .ref a] ∧ Bag b n H ∧ n + 10 < 1000000000000 ∧ hid b H a = some (.lst (ns.map V.int)) ∧ ns.length ≤ 1000 ∧
  ∀ (r : Int) (H' : Hp), r.natAbs < 10 ^ 30 → Drw b (n + 10) H H' → Q (.int r) H'
abbrev s_law_number : Stmt := top 15
abbrev N_law_number : List Str := ["_law_bag_here", "_law_near", "_law_way", "_law_top"]
theorem sc_law_number : FnScope N_law_number ["_law_bag_here", "_law_near"] (defScope s_law_number) := ⟨rfl, rfl, rfl, by decide +kernel, rfl, by decide +kernel, by decide +kernel⟩
theorem c_number (F : At K mg "_law_number" s_law_number) (B : Bl mg) (c_law_take : Cal P w K mg base 1 "_law_take" spTake) (c_law_of : Cal P w K mg base 2 "_law_of" (spOf K)) : Cal P w K mg base 3 "_law_number" spNumber := by
  refine cal_of F sc_law_number (fun vs H Q E h => ?_) (fun _ _ _ _ _ _ us hl => match us, hl with | [_, _], _ => rfl) (fun f cdv A outer s H vs Q E hr h => ?_)
  · obtain ⟨b, a, n, ns, rfl, _⟩ := h
    rfl
  · obtain ⟨b, a, n, ns, rfl, hb, hn, hna, hns, k⟩ := h
    refine ⟨_, (pss_cons (ps_par (i := 2) (j := 3) (by rfl) sc_law_number.nd rfl rfl (by decide) rfl rfl (pa_cons (pe_cA c_law_take hr (by omega) rfl (pa_cons (pv 0) (pa_cons pe_int pa_nil))) (pa_cons (pe_op op_sub (pe_op op_pow pe_int pe_int) pe_int) pa_nil)) (by rfl))
  (pss_cons (ps_if (pt_cmpR op_gtA (pv 2) pe_int (nomark _))
   (pss_one (ps_ret (pe_op op_sub (pe_cA c_law_take hr (by omega) rfl (pa_cons (pv 0) (pa_cons pe_int pa_nil))) pe_int)))
   pss_nil)
  (pss_cons (ps_if (pt_cmpR (op_eqA K hr.units) (pv 2) pe_int (nomark _))
   (pss_one (ps_ret (pe_op op_mulA (pe_op op_sub (pv 3) (pe_cA c_law_take hr (by omega) rfl (pa_cons (pv 0) (pa_cons (pe_op op_pow pe_int pe_int) pa_nil)))) (pe_op op_sub pe_int (pe_op op_mulA pe_int (pe_cA c_law_take hr (by omega) rfl (pa_cons (pv 0) (pa_cons pe_int pa_nil))))))))
   pss_nil)
  (pss_one (ps_ret (pe_callB (call_max2A rfl) rfl B.max (by decide +kernel) (pa_cons (pe_un un_neg (pv 3)) (pa_cons (pe_callB (call_min2A rfl) rfl B.min (by decide +kernel) (pa_cons (pv 3) (pa_cons (pe_op op_sub (pe_op (op_addA K) (pe_cA c_law_of hr (by omega) rfl (pa_cons (pv 0) (pa_cons (pe_op (op_addA K) (pv 1) (pe_lst (pa_cons pe_int pa_nil))) pa_nil))) (pe_cA c_law_take hr (by omega) rfl (pa_cons (pv 0) (pa_cons pe_int pa_nil)))) pe_int) pa_nil))) pa_nil)))))))), ?_⟩
    walk_at "rd"
    refine ⟨b, _, n, rfl, hb, by omega, by decide, by decide, fun d H1 hd0 hdl hd1 => ?_⟩
    walk_at "rx"
    refine iteD (fun h1 => ?_) (fun h1 => ?_)
    · walk_at "rd"
      refine ⟨b, _, n + 1, rfl, hd1.bag, by omega, by decide, by decide, fun d2 H2 hd20 hd2l hd2 => ?_⟩
      walk_at "rd"
      refine k _ _ ?_ ((hd1.trans hd2).mono (by omega))
      omega
    · walk_at "rd"
      refine iteD (fun h2 => ?_) (fun h2 => ?_)
      · walk_at "rx"
        refine ⟨b, _, n + 1, rfl, hd1.bag, by omega, by decide, by decide, fun d2 H2 hd20 hd2l hd2 => ?_⟩
        walk_at "rx"
        refine ⟨b, _, n + 2, rfl, hd2.bag, by omega, by decide, by decide, fun d3 H3 hd30 hd3l hd3 => ?_⟩
        walk_at "rx"
        have e10 : (10 : Int) ^ (30 : Int).toNat = 1000000000000000000000000000000 := by decide
        rw [e10] at hd2l
        refine k _ _ ?_ (((hd1.trans hd2).trans hd3).mono (by omega))
        rw [e10]
        obtain rfl | rfl : d3 = 0 ∨ d3 = 1 := by omega
        · omega
        · omega
      · walk_at "rd"
        have e10 : (10 : Int) ^ (30 : Int).toNat = 1000000000000000000000000000000 := by decide
        refine ⟨Nat.le_of_lt (by decide), fun p hp => ?_⟩
        have hd2 := hd1.bag.new (o := .lst [.int 0]) hp
        have hna2 := hd2.1.ex _ _ (hd1.ex _ _ hna)
        refine r_addL (hid_get hna2) (hid_get hd2.2) (by rw [sizeLine_eq, List.length_map]; show _ + 1 ≤ _; omega) (fun l hl => ?_)
        have hd3 := hd2.1.bag.new (o := .lst (ns.map V.int ++ [.int 0])) hl
        walk_at "rd"
        refine ⟨b, _, n + 1, rfl, hd3.1.bag, by omega, .inl ⟨l, _, rfl, .inl (SqL.of hd3.2), by simp, by rw [List.length_append, List.length_map]; show _ + 1 ≤ _; omega, fun y hy H2 hd4 => ?_⟩⟩
        obtain ⟨yi, rfl⟩ : ∃ yi, y = V.int yi := by
          rcases List.mem_append.mp hy with hy | hy
          · obtain ⟨yi, _, rfl⟩ := List.mem_map.mp hy
            exact ⟨yi, rfl⟩
          · exact ⟨0, List.mem_singleton.mp hy⟩
        walk_at "rd"
        refine ⟨b, _, n + 2, rfl, hd4.bag, by omega, by decide, by decide, fun d5 H5 hd50 hd5l hd5 => ?_⟩
        walk_at "rd"
        refine k _ _ ?_ (((((hd1.trans hd2.1).trans hd3.1).trans hd4).trans hd5).mono (by omega))
        rw [e10]
        split <;> split <;> omega
end

section
variable {P : Program} {w : World} {K : PySem.W.Frag} {mg : Str → Option Value} {base : Heap}
/-! a bag -/
def spBag (K : PySem.W.Frag) : Sp := fun vs H Q _ => ∃ (a : Addr) (ns : List Int) (i : Nat), vs = [.ref a, .int (i : Int)] ∧ SqL K H a (ns.map V.int) ∧ i < 64 ∧ ns.length ≤ 63 ∧
  ∀ (b : Addr) (l : List V), H b = none → BagL 0 l → Q (.ref b) (upd H b (.lst l))
abbrev s_law_bag : Stmt := top 12
abbrev N_law_bag : List Str := ["_law_script", "_law_at", "_law_cell"]
theorem sc_law_bag : FnScope N_law_bag ["_law_script", "_law_at"] (defScope s_law_bag) := ⟨rfl, rfl, rfl, by decide +kernel, rfl, by decide +kernel, by decide +kernel⟩
theorem c_bag (F : At K mg "_law_bag" s_law_bag) (B : Bl mg) : Cal P w K mg base 1 "_law_bag" (spBag K) := by
  refine cal_of F sc_law_bag (fun vs H Q E h => ?_) (fun _ _ _ _ _ _ us hl => match us, hl with | [_, _], _ => rfl) (fun f cdv A outer s H vs Q E hr h => ?_)
  · obtain ⟨a, ns, i, rfl, _⟩ := h
    rfl
  · obtain ⟨a, ns, i, rfl, hs, hi, hns, k⟩ := h
    refine ⟨_, (pss_cons (ps_set (i := 2) sc_law_bag.nd rfl (Or.inl rfl) (pe_ifExp (pt_cmpR op_ltA (pv 1) (pe_callB (call_lenA K) rfl B.len (by decide +kernel) (pa_cons (pv 0) pa_nil)) (nomark _)) (pe_ix (ix_A K) (pv 0) (pv 1) (fun _ _ => rfl)) pe_int))
  (pss_one (ps_ret (pe_lst (pa_cons (pe_ifExp (pt_cmpR op_geA (pe_callB call_absA rfl B.abs (by decide +kernel) (pa_cons (pv 2) pa_nil)) (pe_op op_pow pe_int pe_int) (nomark _)) (pe_callB call_absA rfl B.abs (by decide +kernel) (pa_cons (pv 2) pa_nil)) pe_int) (pa_cons (pe_op (op_addA K) (pe_op op_mod (pe_callTy call_intA rfl B.int (by decide +kernel) (pa_cons (pv 2) pa_nil)) pe_int) (pe_op op_mulA pe_int (pv 1))) (pa_cons pe_int pa_nil))))))), ?_⟩
    walk_at "rd"
    refine r_lenL hs ?_
    walk_at "rd"
    have key : ∀ c : Int, tRet (tLst (tCons (tIf (tTest (tOp rGeA (tCB rAbsA (tCons (tVar 2) tNil)) (tOp (rI CPow fun i j => .int (i ^ j.toNat)) (tC (.int 10)) (tC (.int 18))))) (tCB rAbsA (tCons (tVar 2) tNil)) (tC (.int 0)))
        (tCons (tOp (rAddA K) (tOp (rI (fun _ j => 0 < j) fun i j => .int (i % j)) (tCB rIntA (tCons (tVar 2) tNil)) (tC (.int 998244353))) (tOp rMulA (tC (.int 3000017)) (tVar 1))) (tCons (tC (.int 0)) tNil)))) { nx := fun _ H' => Q .non H', rt := Q } [some (.ref a), some (.int (i : Int)), some (.int c)] H := by
      intro c
      have hm1 : 0 ≤ c % 998244353 := Int.emod_nonneg _ (by decide)
      have hm2 : c % 998244353 < 998244353 := Int.emod_lt_of_pos _ (by decide)
      walk_at "rx"
      refine iteD (fun h1 => ?_) (fun h1 => ?_)
      · walk_at "rx"
        refine ⟨(by show 3 ≤ sizeLine; decide), fun p hp => k p _ hp ⟨_, _, _, rfl, by omega, by omega, by omega, by omega⟩⟩
      · walk_at "rx"
        refine ⟨(by show 3 ≤ sizeLine; decide), fun p hp => k p _ hp ⟨_, _, _, rfl, by omega, by omega, by omega, by omega⟩⟩
    refine iteD (fun h1 => ?_) (fun h1 => ?_)
    · have hi2 : i < ns.length := by
        rw [List.length_map] at h1
        omega
      walk_at "rd"
      refine r_ixL hs (atI_nat (by rw [List.getElem?_map, List.getElem?_eq_getElem hi2]; rfl)) ?_
      exact key _
    · refine r_c ?_
      exact key 0
end

abbrev s_law_any_constant : Stmt := top 17
abbrev N_law_any_constant : List Str := ["_law_bag_here", "_law_way"]
theorem sc_law_any_constant : FnScope N_law_any_constant ["_law_bag_here"] (defScope s_law_any_constant) := ⟨rfl, rfl, rfl, by decide +kernel, rfl, by decide +kernel, by decide +kernel⟩
def spConst : Sp := fun vs H Q _ => ∃ (b : Addr) (n : Nat), vs = [.ref b] ∧ Bag b n H ∧ n + 20 < 1000000000000 ∧ ∀ (v : V) (H' : Hp), Cst v → Drw b (n + 20) H H' → Q v H'
section
variable {P : Program} {w : World} {K : PySem.W.Frag} {mg : Str → Option Value} {base : Heap}
theorem c_any_constant (F : At K mg "_law_any_constant" s_law_any_constant) (B : Bl mg) (c_law_take : Cal P w K mg base 1 "_law_take" spTake) (c_law_of : Cal P w K mg base 2 "_law_of" (spOf K)) (c_law_word : Cal P w K mg base 3 "_law_word" spWord) (c_law_number : Cal P w K mg base 3 "_law_number" spNumber) : Cal P w K mg base 4 "_law_any_constant" spConst := by
  refine cal_of F sc_law_any_constant (fun vs H Q E h => ?_) (fun _ _ _ _ _ _ us hl => match us, hl with | [_], _ => rfl) (fun f cdv A outer s H vs Q E hr h => ?_)
  · obtain ⟨b, n, rfl, _⟩ := h
    rfl
  · obtain ⟨b, n, rfl, hb, hn, kk⟩ := h
    refine ⟨_, (pss_cons (ps_set (i := 1) sc_law_any_constant.nd rfl (Or.inl rfl) (pe_cA c_law_take hr (by omega) rfl (pa_cons (pv 0) (pa_cons pe_int pa_nil))))
  (pss_cons (ps_if (pt_cmpR (op_eqA K hr.units) (pv 1) pe_int (nomark _))
   (pss_one (ps_ret pe_non))
   pss_nil)
  (pss_cons (ps_if (pt_cmpR (op_eqA K hr.units) (pv 1) pe_int (nomark _))
   (pss_one (ps_ret (pe_cA c_law_of hr (by omega) rfl (pa_cons (pv 0) (pa_cons (pe_lst (pa_cons pe_int (pa_cons pe_int (pa_cons (pe_un un_neg pe_int) (pa_cons pe_int (pa_cons (pe_un un_neg pe_int) (pa_cons pe_int (pa_cons (pe_op op_sub (pe_op op_pow pe_int pe_int) pe_int) (pa_cons (pe_op op_sub pe_int (pe_op op_pow pe_int pe_int)) pa_nil))))))))) pa_nil)))))
   pss_nil)
  (pss_one (ps_ret (pe_ifExp (pt_cmpR op_ltA (pv 1) pe_int (nomark _)) (pe_cA c_law_number hr (by omega) rfl (pa_cons (pv 0) (pa_cons (pe_lst pa_nil) pa_nil))) (pe_cA c_law_word hr (by omega) rfl (pa_cons (pv 0) (pa_cons pe_int pa_nil))))))))), ?_⟩
    walk_at "rd"
    refine ⟨b, _, n, rfl, hb, by omega, by decide, by decide, fun way H1 hw0 hw1 r1 => ?_⟩
    walk_at "rd"
    refine iteD (fun h1 => ?_) (fun h1 => ?_)
    · walk_at "rd"
      exact kk _ _ trivial (r1.mono (by omega))
    · walk_at "rd"
      refine iteD (fun h2 => ?_) (fun h2 => ?_)
      · walk_at "rx"
        refine ⟨by show 8 ≤ sizeLine; decide, fun p hp => ?_⟩
        obtain ⟨r2, hp2⟩ := r1.bag.new (o := .lst [.int 0, .int 1, .int (-1), .int 9, .int (-9), .int 10, .int (10 ^ (30 : Int).toNat - 1), .int (1 - 10 ^ (30 : Int).toNat)]) hp
        walk_at "rd"
        refine ⟨b, _, n + 1, rfl, r2.bag, by omega, .inl ⟨p, _, rfl, .inl (SqL.of hp2), by simp, by simp, fun y hy H3 r3 => ?_⟩⟩
        refine kk _ _ ?_ (((r1.trans r2).trans r3).mono (by omega))
        simp only [List.mem_cons, List.not_mem_nil, or_false] at hy
        rcases hy with rfl | rfl | rfl | rfl | rfl | rfl | rfl | rfl
        all_goals (show Int.natAbs _ < _; decide)
      · walk_at "rd"
        refine iteD (fun h3 => ?_) (fun h3 => ?_)
        · walk_at "rd"
          refine ⟨Nat.zero_le _, fun p hp => ?_⟩
          obtain ⟨r2, hp2⟩ := r1.bag.new (o := .lst []) hp
          walk_at "rd"
          refine ⟨b, p, n + 1, [], rfl, r2.bag, by omega, hp2, by simp, fun i H3 hi r3 => ?_⟩
          exact kk _ _ hi (((r1.trans r2).trans r3).mono (by omega))
        · walk_at "rd"
          refine ⟨b, 8, n + 1, rfl, r1.bag, by omega, by omega, fun z H3 hz r3 => ?_⟩
          exact kk _ _ hz ((r1.trans r3).mono (by omega))
end

abbrev s_law_written : Stmt := top 18
abbrev N_law_written : List Str := ["_law_value", "_law_one"]
theorem sc_law_written : FnScope N_law_written ["_law_value"] (defScope s_law_written) := ⟨rfl, rfl, rfl, by decide +kernel, rfl, by decide +kernel, by decide +kernel⟩
def spWritten : Sp := fun vs H Q _ => ∃ v, vs = [v] ∧ Cst v ∧ Q (.str (cstS v)) H
section
variable {P : Program} {w : World} {K : PySem.W.Frag} {mg : Str → Option Value} {base : Heap}
theorem quoteE2 : ("\"" : Str) = ⟨#[34]⟩ := by decide +kernel
theorem written_never (F : At K mg "_law_written" s_law_written) : Cal P w K mg base 1 "_law_written" (fun _ _ _ _ => False) :=
  cal_of F sc_law_written (fun vs H Q E h => h.elim) (fun _ _ _ _ _ _ us hl => match us, hl with | [_], _ => rfl) (fun f cdv A outer s H vs Q E hr h => h.elim)
theorem c_written_ (F : At K mg "_law_written" s_law_written) (B : Bl mg) (c_law_written : Cal P w K mg base 1 "_law_written" (fun _ _ _ _ => False)) : Cal P w K mg base 2 "_law_written" spWritten := by
  refine cal_of F sc_law_written (fun vs H Q E h => ?_) (fun _ _ _ _ _ _ us hl => match us, hl with | [_], _ => rfl) (fun f cdv A outer s H vs Q E hr h => ?_)
  · obtain ⟨v, rfl, _⟩ := h
    rfl
  · obtain ⟨v, rfl, hv, k⟩ := h
    refine ⟨_, (pss_cons (ps_if (pt_val (pe_callB (call_isinstanceA K) rfl B.isinstance (by decide +kernel) (pa_cons (pv 0) (pa_cons (pe_bltn (v := .ty "tuple") rfl B.tuple (by decide +kernel) rfl) pa_nil))))
   (pss_one (ps_ret (pe_op (op_addA K) (pe_op (op_addA K) pe_str (pe_joinA K pe_str (pe_lc (own := [("_law_one", 1)]) rfl sc_law_written.nd (pi_any K (pv 0)) (blkOk_by (N := N_law_written) (sc := defScope s_law_written) (by decide +kernel)) (fun _ _ _ _ _ => (pg_name (i := 1) sc_law_written.nd rfl (Or.inl rfl))) (fun _ _ _ _ _ => pts_nil) (fun _ _ _ _ _ => (pe_cA c_law_written hr (by omega) rfl (pa_cons (pv 1) pa_nil)))))) pe_str)))
   pss_nil)
  (pss_cons (ps_if (pt_cmpR op_isA (pv 0) pe_non (nomark _))
   (pss_one (ps_ret pe_str))
   pss_nil)
  (pss_one (ps_ret (pe_ifExp (pt_val (pe_callB (call_isinstanceA K) rfl B.isinstance (by decide +kernel) (pa_cons (pv 0) (pa_cons (pe_bltn (v := .ty "str") rfl B.str (by decide +kernel) rfl) pa_nil)))) (pe_op (op_addA K) (pe_op (op_addA K) pe_str (pv 0)) pe_str) (pe_callTy call_strA rfl B.str (by decide +kernel) (pa_cons (pv 0) pa_nil))))))), ?_⟩
    cases v with
    | non => walk_at "rx"; exact k
    | int i =>
      have hv : i.natAbs < 10 ^ 30 := hv
      walk_at "rx"
      refine r_str (Nat.lt_trans hv (by decide)) ?_
      exact k
    | str z =>
      have hv : Word 8 z := hv
      have h1 := hv.1
      walk_at "rx"
      rw [quoteE2]
      refine r_addS (by rw [sizeLine_eq]; show 1 + z.length ≤ _; omega) ?_
      walk_at "rx"
      refine r_addS ?_ ?_
      · rw [sizeLine_eq, ← tl_length, tl_app, List.length_append, tl_length]
        show 1 + z.length + 1 ≤ _
        omega
      · exact k
    | _ => exact hv.elim
end

abbrev s_law_call_text : Stmt := top 19
abbrev N_law_call_text : List Str := ["_law_name", "_law_values", "_law_value"]
theorem sc_law_call_text : FnScope N_law_call_text ["_law_name", "_law_values"] (defScope s_law_call_text) := ⟨rfl, rfl, rfl, by decide +kernel, rfl, by decide +kernel, by decide +kernel⟩
def spCText (K : PySem.W.Frag) : Sp := fun vs H Q _ => ∃ (name : Str) (a : Addr) (xs : List V), vs = [.str name, .ref a] ∧ name.length ≤ 1000 ∧ SqL K H a xs ∧ (∀ v ∈ xs, Cst v) ∧ xs.length ≤ 1000 ∧
  ∀ (z : Str) (H' : Hp), tl z = tl name ++ 40 :: (TL.joinL sep (xs.map cstL) ++ [41]) → Evl.Ex H H' → Q (.str z) H'
section
variable {P : Program} {w : World} {K : PySem.W.Frag} {mg : Str → Option Value} {base : Heap}
def wV (v : V) : V := .str (cstS v)
theorem sepE : TL.tl (", " : Str) = sep := by decide +kernel
theorem sum_le {m : Nat} : ∀ {xs : List V}, (∀ v ∈ xs, Cst v) → ((xs.map fun v => cstS v).map (·.length)).sum ≤ xs.length * 40
  | [], _ => by simp
  | v :: r, h => by
    have h1 := cst_len (h v (List.mem_cons_self ..))
    unfold cstL at h1
    rw [tl_length] at h1
    have h2 := sum_le (m := m) (xs := r) fun u hu => h u (List.mem_cons_of_mem _ hu)
    rw [List.map_cons, List.map_cons, List.sum_cons, List.length_cons]
    omega
theorem c_call_text_ (F : At K mg "_law_call_text" s_law_call_text) (B : Bl mg) (c_law_written : Cal P w K mg base 2 "_law_written" spWritten) : Cal P w K mg base 3 "_law_call_text" (spCText K) := by
  refine cal_of F sc_law_call_text (fun vs H Q E h => ?_) (fun _ _ _ _ _ _ us hl => match us, hl with | [_, _], _ => rfl) (fun f cdv A outer s H vs Q E hr h => ?_)
  · obtain ⟨n, a, xs, rfl, _⟩ := h
    rfl
  · obtain ⟨n, a, xs, rfl, hn, hs, hc, hl, k⟩ := h
    refine ⟨_, (pss_one (ps_ret (pe_op (op_addA K) (pe_op (op_addA K) (pe_op (op_addA K) (pv 0) pe_str) (pe_joinA K pe_str (pe_lc (own := [("_law_value", 2)]) rfl sc_law_call_text.nd (pi_any K (pv 1)) (blkOk_by (N := N_law_call_text) (sc := defScope s_law_call_text) (by decide +kernel)) (fun _ _ _ _ _ => (pg_name (i := 2) sc_law_call_text.nd rfl (Or.inl rfl))) (fun _ _ _ _ _ => pts_nil) (fun _ _ _ _ _ => (pe_cA c_law_written hr (by omega) rfl (pa_cons (pv 2) pa_nil)))))) pe_str))), ?_⟩
    walk_at "rx"
    refine r_addS (by rw [sizeLine_eq]; show n.length + 1 ≤ _; omega) ?_
    walk_at "rx"
    refine ⟨⟨_, rfl⟩, ?_⟩
    walk_at "rx"
    refine .inl ⟨a, rfl, ⟨_, hs⟩, ?_⟩
    intro D hD
    refine lc_seq (K := K) (a := a) hD wV hs ?_ ?_ ?_ ?_
    · exact fun _ => rfl
    · omega
    · intro v hv H' e1 Q' q
      walk_at "rd"
      exact ⟨v, rfl, hc v hv, q _ (Evl.Ex.refl _)⟩
    · intro H1 e1 hD2
      have hsum := sum_le (m := 0) hc
      have hcl : (", " : Str).length = 2 := by decide +kernel
      refine ⟨_, D, xs.map cstS, rfl, rfl, .inl (SqL.of (by rw [hD2, List.map_map]; rfl)), ?_, ?_⟩
      · rw [List.length_map, hcl]
        have : ((xs.map cstS).map (·.length)).sum ≤ xs.length * 40 := hsum
        omega
      · have ej : tl (Txt.join (", " : Str) (xs.map cstS)) = TL.joinL sep (xs.map cstL) := by
          rw [TL.join_eq]
          refine (TL.tl_join _ _).trans ?_
          rw [sepE, List.map_map]
          rfl
        have hjl : (Txt.join (", " : Str) (xs.map cstS)).length ≤ xs.length * 42 := by
          rw [← tl_length, ej]
          have := join_len (m := 40) (parts := xs.map cstL) fun p hp => by
            obtain ⟨v, hv, rfl⟩ := List.mem_map.mp hp
            exact cst_len (hc v hv)
          rw [List.length_map] at this
          exact this
        have hp1 : (n ++ ("(" : Str)).length = n.length + 1 := by
          rw [← tl_length, tl_app, List.length_append, tl_length]
          rfl
        refine r_addS (by rw [sizeLine_eq, hp1]; omega) ?_
        walk_at "rx"
        refine r_addS ?_ ?_
        · rw [sizeLine_eq, ← tl_length, tl_app, List.length_append, tl_length, tl_length, hp1]
          show _ + 1 ≤ _
          omega
        · refine k _ _ ?_ e1
          rw [tl_app, tl_app, tl_app, ej]
          rw [show tl ("(" : Str) = [40] by decide +kernel, show tl (")" : Str) = [41] by decide +kernel]
          simp
end

abbrev s_law_keywords : Stmt := top 20
abbrev N_law_keywords : List Str := []
theorem sc_law_keywords : FnScope N_law_keywords [] (defScope s_law_keywords) := ⟨rfl, rfl, rfl, by decide +kernel, rfl, by decide +kernel, by decide +kernel⟩
def spKw : Sp := fun vs H Q _ => vs = [] ∧ ∀ p, H p = none → Q (.ref p) (upd H p (.lst (kwS.map V.str)))
section
variable {P : Program} {w : World} {K : PySem.W.Frag} {mg : Str → Option Value} {base : Heap}
theorem c_keywords (F : At K mg "_law_keywords" s_law_keywords) (B : Bl mg) : Cal P w K mg base 1 "_law_keywords" spKw := by
  refine cal_of F sc_law_keywords (fun vs H Q E h => ?_) (fun _ _ _ _ _ _ us hl => match us, hl with | [], _ => rfl) (fun f cdv A outer s H vs Q E hr h => ?_)
  · rw [h.1]; rfl
  · obtain ⟨rfl, k⟩ := h
    refine ⟨_, (pss_one (ps_ret (pe_lst (pa_cons pe_str (pa_cons pe_str (pa_cons pe_str (pa_cons pe_str (pa_cons pe_str (pa_cons pe_str (pa_cons pe_str (pa_cons pe_str (pa_cons pe_str (pa_cons pe_str (pa_cons pe_str (pa_cons pe_str (pa_cons pe_str (pa_cons pe_str (pa_cons pe_str (pa_cons pe_str (pa_cons pe_str (pa_cons pe_str (pa_cons pe_str (pa_cons pe_str (pa_cons pe_str (pa_cons pe_str (pa_cons pe_str (pa_cons pe_str (pa_cons pe_str (pa_cons pe_str (pa_cons pe_str (pa_cons pe_str (pa_cons pe_str (pa_cons pe_str (pa_cons pe_str (pa_cons pe_str (pa_cons pe_str (pa_cons pe_str pa_nil))))))))))))))))))))))))))))))))))))), ?_⟩
    walk_at "rd"
    exact ⟨by show 34 ≤ sizeLine; decide, k⟩
end

abbrev s_law_any_name : Stmt := top 21
abbrev N_law_any_name : List Str := ["_law_bag_here", "_law_letters", "_law_found", "_law_turn"]
theorem sc_law_any_name : FnScope N_law_any_name ["_law_bag_here"] (defScope s_law_any_name) := ⟨rfl, rfl, rfl, by decide +kernel, rfl, by decide +kernel, by decide +kernel⟩
def spAName : Sp := fun vs H Q _ => ∃ (b : Addr) (n : Nat), vs = [.ref b] ∧ Bag b n H ∧ n + 20 < 1000000000000 ∧ ∀ (z : Str) (H' : Hp), isNameL (tl z) = true → Drw b (n + 20) H H' → Q (.str z) H'
section
variable {P : Program} {w : World} {K : PySem.W.Frag} {mg : Str → Option Value} {base : Heap}
theorem any_flat2 (l : List Str) : (l.map V.str).all flatV = true := by
  rw [List.all_eq_true]
  intro v hv
  obtain ⟨z, _, rfl⟩ := List.mem_map.mp hv
  rfl
theorem in_strs2 (z : Str) : ∀ l : List Str, inV (.str z) (l.map V.str) = l.any fun k => decide (tl k = tl z)
  | [] => rfl
  | k :: r => by
    have h := in_strs2 z r
    unfold inV at h ⊢
    rw [List.map_cons, List.any_cons, List.any_cons, h]
    congr 1
    show eqV (.str k) (.str z) = _
    unfold eqV
    first
      | exact decide_eq_decide.mpr (by rw [tl_inj])
      | (by_cases e : k = z
         · subst e; simp
         · have : ¬ tl k = tl z := fun q => e (tl_ext q)
           simp [e, this])
theorem kw_q : kwS.all (fun k => isNameL (113 :: tl k)) = true := by decide +kernel
theorem c_any_name (F : At K mg "_law_any_name" s_law_any_name) (B : Bl mg) (c_law_take : Cal P w K mg base 1 "_law_take" spTake) (c_law_of : Cal P w K mg base 2 "_law_of" (spOf K)) (c_law_keywords : Cal P w K mg base 1 "_law_keywords" spKw) : Cal P w K mg base 3 "_law_any_name" spAName := by
  refine cal_of F sc_law_any_name (fun vs H Q E h => ?_) (fun _ _ _ _ _ _ us hl => match us, hl with | [_], _ => rfl) (fun f cdv A outer s H vs Q E hr h => ?_)
  · obtain ⟨b, n, rfl, _⟩ := h
    rfl
  · obtain ⟨b, n, rfl, hb, hn, k⟩ := h
    refine ⟨_, (pss_cons (ps_set (i := 1) sc_law_any_name.nd rfl (Or.inl rfl) pe_str)
  (pss_cons (ps_set (i := 2) sc_law_any_name.nd rfl (Or.inl rfl) (pe_cA c_law_of hr (by omega) rfl (pa_cons (pv 0) (pa_cons (pv 1) pa_nil))))
  (pss_cons (ps_for PassesOwn.never rfl (pi_range1 rfl B.range (pa_cons (pe_cA c_law_take hr (by omega) rfl (pa_cons (pv 0) (pa_cons pe_int pa_nil))) pa_nil)) (pg_name (i := 3) sc_law_any_name.nd rfl (Or.inl rfl))
   (pss_one (ps_set (i := 2) sc_law_any_name.nd rfl (Or.inl rfl) (pe_op (op_addA K) (pv 2) (pe_cA c_law_of hr (by omega) rfl (pa_cons (pv 0) (pa_cons (pv 1) pa_nil)))))))
  (pss_cons (ps_if (pt_cmpR (op_inA K) (pv 2) (pe_cA0 c_law_keywords hr (by omega) rfl) (by rfl))
   (pss_one (ps_set (i := 2) sc_law_any_name.nd rfl (Or.inl rfl) (pe_op (op_addA K) pe_str (pv 2))))
   pss_nil)
  (pss_one (ps_ret (pv 2))))))), ?_⟩
    walk_at "rd"
    refine ⟨b, _, n, rfl, hb, by omega, .inr ⟨_, rfl, by decide +kernel, by decide +kernel, fun c0 hc0 H1 hd1 => ?_⟩⟩
    replace hc0 := small_ok hc0
    walk_at "rd"
    refine ⟨b, _, n + 1, rfl, hd1.bag, by omega, by decide, by decide, fun d H2 hd0 hdl hd2 => ?_⟩
    refine ⟨_, rfl, by omega, by omega, for_range (lo := 0) (n := d.toNat) (fun i σ H' => ∃ (z : Str) (u : Option V), σ = [some (.ref b), some (.str "abcdefghijklmnopqrstuvwxyz"), some (.str z), u] ∧ z.length = i + 1 ∧ (∀ x ∈ tl z, 97 ≤ x ∧ x ≤ 122) ∧ Drw b (n + 2 + i) H H') ?_ ?_ ?_⟩
    · exact ⟨⟨#[c0]⟩, none, rfl, rfl, fun x hx => by rw [show x = c0 from List.mem_singleton.mp hx]; exact hc0, hd1.trans hd2⟩
    · rintro i σ H' hi ⟨z, u, rfl, hz, hlet, hd⟩
      walk_at "rd"
      refine ⟨b, _, n + 2 + i, rfl, hd.bag, by omega, .inr ⟨_, rfl, by decide +kernel, by decide +kernel, fun c hc H3 hd3 => ?_⟩⟩
      refine r_addS (by rw [sizeLine_eq, hz]; show i + 1 + 1 ≤ _; omega) ?_
      refine ⟨_, _, rfl, ?_, ?_, (hd.trans hd3).mono (by omega)⟩
      · rw [← tl_length, tl_app, List.length_append, tl_length, hz]; rfl
      · intro x hx
        rw [tl_app] at hx
        rcases List.mem_append.mp hx with hx | hx
        · exact hlet x hx
        · rw [show x = c from List.mem_singleton.mp hx]
          exact small_ok hc
    · rintro σ H' ⟨z, u, rfl, hz, hlet, hd⟩
      walk_at "rd"
      refine ⟨rfl, fun p hp => ?_⟩
      have r3 := (hd.bag.new (o := .lst (kwS.map V.str)) hp).1
      refine .inr ⟨p, _, rfl, .inl (SqL.of upd_same), rfl, any_flat2 kwS, ?_⟩
      rw [if_neg Bool.false_ne_true, in_strs2]
      walk_at "rd"
      refine iteB (fun h1 => ?_) (fun h1 => ?_)
      · walk_at "rd"
        refine r_addS (by rw [sizeLine_eq]; show 1 + z.length ≤ _; omega) ?_
        walk_at "rd"
        refine k _ _ ?_ ((hd.trans r3).mono (by omega))
        obtain ⟨kw, hk1, hk2⟩ := List.any_eq_true.mp h1
        rw [tl_app, ← of_decide_eq_true hk2, show tl ("q" : Str) = [113] by decide +kernel]
        exact List.all_eq_true.mp kw_q kw hk1
      · walk_at "rd"
        refine k _ _ ?_ ((hd.trans r3).mono (by omega))
        unfold isNameL isWordL
        rw [h1, decide_eq_true (show (tl z).length ≤ 12 by rw [tl_length]; omega), decide_eq_true (show tl z ≠ [] from fun e => by have := tl_length z; rw [e] at this; simp at this; omega), Bool.true_and]
        rw [show (tl z).all (fun c => decide (c ∈ smallL)) = true from List.all_eq_true.mpr fun c hc => decide_eq_true (small_mem.mpr (hlet c hc))]
        rfl
end

abbrev s_law_any_call : Stmt := top 22
abbrev N_law_any_call : List Str := ["_law_bag_here", "_law_some", "_law_turn"]
theorem sc_law_any_call : FnScope N_law_any_call ["_law_bag_here"] (defScope s_law_any_call) := ⟨rfl, rfl, rfl, by decide +kernel, rfl, by decide +kernel, by decide +kernel⟩
def spACall : Sp := fun vs H Q _ => ∃ (b : Addr) (n : Nat), vs = [.ref b] ∧ Bag b n H ∧ n + 150 < 1000000000000 ∧ ∀ (z : Str) (H' : Hp), CallOk z → Drw b (n + 150) H H' → Q (.str z) H'
section
variable {P : Program} {w : World} {K : PySem.W.Frag} {mg : Str → Option Value} {base : Heap}
theorem c_any_call (F : At K mg "_law_any_call" s_law_any_call) (B : Bl mg) (c_law_take : Cal P w K mg base 1 "_law_take" spTake) (c_law_any_constant : Cal P w K mg base 4 "_law_any_constant" spConst) (c_law_any_name : Cal P w K mg base 3 "_law_any_name" spAName) (c_law_call_text : Cal P w K mg base 3 "_law_call_text" (spCText K)) : Cal P w K mg base 5 "_law_any_call" spACall := by
  refine cal_of F sc_law_any_call (fun vs H Q E h => ?_) (fun _ _ _ _ _ _ us hl => match us, hl with | [_], _ => rfl) (fun f cdv A outer s H vs Q E hr h => ?_)
  · obtain ⟨b, n, rfl, _⟩ := h
    rfl
  · obtain ⟨b, n, rfl, hb, hn, k⟩ := h
    refine ⟨_, (pss_cons (ps_setLc (i := 1) (own := [("_law_turn", 2)]) rfl sc_law_any_call.nd rfl rfl (sw_true rfl rfl rfl (by decide +kernel)) (pi_range1 rfl B.range (pa_cons (pe_cA c_law_take hr (by omega) rfl (pa_cons (pv 0) (pa_cons pe_int pa_nil))) pa_nil)) (blkOk_by (N := N_law_any_call) (sc := defScope s_law_any_call) (by decide +kernel)) (fun _ _ _ _ _ => (pg_name (i := 2) sc_law_any_call.nd rfl (Or.inl rfl))) (fun _ _ _ _ _ => pts_nil) (fun _ _ _ _ _ => (pe_cA c_law_any_constant hr (by omega) rfl (pa_cons (pv 0) pa_nil))))
  (pss_one (ps_ret (pe_cA c_law_call_text hr (by omega) rfl (pa_cons (pe_cA c_law_any_name hr (by omega) rfl (pa_cons (pv 0) pa_nil)) (pa_cons (pv 1) pa_nil)))))), ?_⟩
    walk_at "rd"
    refine ⟨b, _, n, rfl, hb, by omega, by decide, by decide, fun m0 H1 hm0 hm1 r1 => ?_⟩
    obtain ⟨m, rfl⟩ := Int.eq_ofNat_of_zero_le hm0
    refine ⟨_, rfl, by omega, by omega, fun L hL => ?_⟩
    refine lc_draw (m := (m : Int).toNat) (c := 20) hL r1.bag (by omega) (fun _ v => Cst v) (fun _ _ _ _ h => h) ?_ ?_ ?_
    · exact fun _ => rfl
    · intro i H' hi r2 Q' q
      walk_at "rd"
      exact ⟨b, _, rfl, r2.bag, by omega, fun v H'' hv r3 => q v H'' hv r3⟩
    · intro H2 xs hxl hI hL2 nLb r2
      replace r2 := r1.trans r2
      walk_at "rd"
      refine ⟨b, _, rfl, r2.bag, by omega, fun z H3 hz r3 => ?_⟩
      have hL3 := r3.ex _ _ (hid_of hL2 nLb)
      replace r3 := r2.trans r3
      walk_at "rd"
      obtain ⟨n1, n2, n3⟩ := name_small hz
      rw [tl_length] at n2
      refine ⟨z, L, xs, rfl, by omega, SqL.of (hid_get hL3), hI, by omega, fun t H4 ht e4 => ?_⟩
      exact k _ _ ⟨tl z, xs, hz, hI, by omega, ht⟩ ((r3.trans (r3.bag.ex e4)).mono (by omega))
end

end WP

set_option Elab.async false
set_option linter.all false
set_option maxRecDepth 100000
set_option maxHeartbeats 4000000
namespace WP
open PySem PySem.Spec PyProof.Rows L2
local macro_rules | `(tactic| walk_at "rd") => `(tactic| repeat (first
  | with_reducible refine r_seq ?_ | with_reducible refine r_callW ?_ | with_reducible refine r_tru ?_ | with_reducible refine r_var rfl ?_ | with_reducible refine r_c ?_ | with_reducible refine r_op ?_ | with_reducible refine r_cons ?_ | with_reducible refine r_nil ?_
  | with_reducible refine r_cb ?_ | with_reducible refine r_call ?_ | with_reducible refine r_test ?_ | with_reducible refine r_B ?_ | with_reducible refine r_bl ?_ | with_reducible refine r_asg ?_ | with_reducible refine r_asgS ?_
  | with_reducible refine r_ret ?_ | with_reducible refine r_drop ?_ | with_reducible refine r_ifS ?_ | with_reducible refine r_if ?_ | with_reducible refine r_and ?_ | with_reducible refine r_or ?_ | with_reducible refine r_not ?_
  | with_reducible refine r_andV ?_ | with_reducible refine r_orV ?_ | with_reducible refine r_notV ?_ | with_reducible refine r_chain ?_ | with_reducible refine r_sl ?_ | with_reducible refine r_nopart ?_ | with_reducible refine r_part ?_
  | with_reducible refine r_intO ?_ | with_reducible refine r_two ?_ | with_reducible refine r_m1 ?_ | with_reducible refine r_bm ?_ | with_reducible refine r_next ?_ | with_reducible refine r_gCons ?_ | with_reducible refine r_gNil ?_ | with_reducible refine r_asgT ?_ | with_reducible refine r_for ?_ | with_reducible refine r_rng1 ?_ | with_reducible refine r_iList ?_ | with_reducible refine r_iAny ?_ | with_reducible refine r_lc ?_ | with_reducible refine r_yes ?_ | with_reducible refine r_gN ?_ | with_reducible refine r_par ?_ | with_reducible refine r_un ?_ | with_reducible refine r_brk ?_ | with_reducible refine r_cont ?_
  | with_reducible refine r_I0 ?_ | with_reducible refine r_U ?_ | with_reducible refine r_addI ?_ | with_reducible refine r_abs ?_ | with_reducible refine r_intI ?_ | with_reducible refine r_max2 ?_ | with_reducible refine r_min2 ?_
  | with_reducible refine r_ltI ?_ | with_reducible refine r_leI ?_ | with_reducible refine r_gtI ?_ | with_reducible refine r_geI ?_ | with_reducible refine r_isN_non ?_ | with_reducible refine r_isN_int ?_ | with_reducible refine r_isN_str ?_ | with_reducible refine r_isN_bl ?_ | with_reducible refine r_isN_ref ?_ | with_reducible refine r_isN ?_ | with_reducible refine r_isB ?_ | with_reducible refine r_isnotN_non ?_ | with_reducible refine r_isnotN_int ?_ | with_reducible refine r_isnotN_str ?_ | with_reducible refine r_isnotN_bl ?_ | with_reducible refine r_isnotN_ref ?_ | with_reducible refine r_isnotN ?_ | with_reducible refine r_isnotB ?_
  | with_reducible refine r_inS ?_ | with_reducible refine r_eqS rfl ?_ | with_reducible refine r_neS rfl ?_ | with_reducible refine r_lst ?_ | with_reducible refine r_tup ?_ | with_reducible refine iteT ?_ | with_reducible refine iteF ?_))
local macro_rules | `(tactic| walk_at "isi") => `(tactic| (first
  | with_reducible refine r_isi_non_int ?_
  | with_reducible refine r_isi_non_str ?_
  | with_reducible refine r_isi_non_list ?_
  | with_reducible refine r_isi_non_tuple ?_
  | with_reducible refine r_isi_non_bool ?_
  | with_reducible refine r_isi_bl_int ?_
  | with_reducible refine r_isi_bl_str ?_
  | with_reducible refine r_isi_bl_list ?_
  | with_reducible refine r_isi_bl_tuple ?_
  | with_reducible refine r_isi_bl_bool ?_
  | with_reducible refine r_isi_int_int ?_
  | with_reducible refine r_isi_int_str ?_
  | with_reducible refine r_isi_int_list ?_
  | with_reducible refine r_isi_int_tuple ?_
  | with_reducible refine r_isi_int_bool ?_
  | with_reducible refine r_isi_str_int ?_
  | with_reducible refine r_isi_str_str ?_
  | with_reducible refine r_isi_str_list ?_
  | with_reducible refine r_isi_str_tuple ?_
  | with_reducible refine r_isi_str_bool ?_
  | with_reducible refine r_isi_lst_int (SqL.of (by assumption)) ?_
  | with_reducible refine r_isi_lst_str (SqL.of (by assumption)) ?_
  | with_reducible refine r_isi_lst_list (SqL.of (by assumption)) ?_
  | with_reducible refine r_isi_lst_tuple (SqL.of (by assumption)) ?_
  | with_reducible refine r_isi_lst_bool (SqL.of (by assumption)) ?_
  | with_reducible refine r_isi_tup_int (SqT.of (by assumption)) ?_
  | with_reducible refine r_isi_tup_str (SqT.of (by assumption)) ?_
  | with_reducible refine r_isi_tup_list (SqT.of (by assumption)) ?_
  | with_reducible refine r_isi_tup_tuple (SqT.of (by assumption)) ?_
  | with_reducible refine r_isi_tup_bool (SqT.of (by assumption)) ?_))
local macro_rules | `(tactic| walk_at "rs") => `(tactic| (first
  | ((with_reducible refine iteTc ?hc ?_); (case hc => rfl)) | ((with_reducible refine iteFc ?hc ?_); (case hc => rfl))
  | walk_at "isi"
  | refine r_ixL (SqL.of (by assumption)) rfl ?_ | refine r_ixL (SqL.of upd_same) rfl ?_
  | refine r_I (C := fun _ j => 0 < j) (by first | decide | assumption | omega) ?_
  | refine r_mulI (.inl ⟨by decide, by decide⟩) ?_ | refine r_mulI (.inr ⟨by decide, by decide⟩) ?_ | refine r_mulI (.inr ⟨by omega, by omega⟩) ?_ | refine r_mulI (.inl ⟨by omega, by omega⟩) ?_
  | refine r_I (wide_div (b := 64) (by decide) (by decide) (by decide) (by decide)) ?_
  | refine r_I (C := CPow) ⟨by decide, by decide, by decide⟩ ?_
  | refine r_setL (by assumption) rfl ?_ | refine r_setL upd_same rfl ?_))
local macro_rules | `(tactic| walk_at "rx") => `(tactic| (walk_at "rd"; (repeat (walk_at "rs"; walk_at "rd"))))

def spPath (K : PySem.W.Frag) : Sp := fun vs H Q _ => ∃ (v : V) (ag : Bool) (d : PyData), vs = [v, .bl ag] ∧ Dp K H v d ∧ fit d = true ∧ ∀ H', Evl.Ex H H' → Q (.bl (isPathD ag d)) H'
abbrev s_is_path : Stmt := top 10
abbrev N_is_path : List Str := ["thing", "ageing", "call"]
theorem sc_is_path : FnScope N_is_path ["thing", "ageing"] (defScope s_is_path) := ⟨rfl, rfl, rfl, by decide +kernel, rfl, by decide +kernel, by decide +kernel⟩
section
variable {P : Program} {w : World} {K : PySem.W.Frag} {mg : Str → Option Value} {base : Heap}
theorem b_is_path (B : Bl mg) (c_is_call : Cal P w K mg base 3 "is_call" (spB1 K isCallD)) {f : Addr} {cdv : Value} {A : Around} {outer : List Env} {s : Shared} {H : Hp} {vs : List V} {Q : VK} {E : XK} (hr : Room 3 (A.deeper (envOfC "is_path" (defScope s_is_path) s.heap.objs.size f cdv))) (h : spPath K vs H Q E) :
    ∃ t, PSs (cxOf L2.CX0 P w K mg base N_is_path "is_path" (defScope s_is_path) f cdv A outer s H E).nox (defBody s_is_path) t ∧ t { nx := fun _ H' => Q .non H', rt := Q } (start N_is_path vs) H := by
  obtain ⟨v, ag, d, rfl, hd, hf, k⟩ := h
  refine ⟨_, (pss_cons (ps_if (PW.pt (pw_or (pt_not (pt_val (pe_callB (call_isinstanceA K) rfl B.isinstance (by decide +kernel) (pa_cons (pv 0) (pa_cons (pe_bltn (v := .ty "tuple") rfl B.tuple (by decide +kernel) rfl) pa_nil))))) (pw_or (pt_cmpR (op_eqA K hr.units) (pe_callB (call_lenA K) rfl B.len (by decide +kernel) (pa_cons (pv 0) pa_nil)) pe_int (nomark _)) (pw_or1 (PW.pt (pw_and (pt_not (pt_truthA K (pv 1) (by intro _; rfl))) (pw_and1 (pt_cmpR op_gtA (pe_callB (call_lenA K) rfl B.len (by decide +kernel) (pa_cons (pv 0) pa_nil)) pe_int (nomark _)))))))))
   (pss_one (ps_ret pe_bl))
   pss_nil)
  (pss_one (ps_ret (pe_callB (call_allA K rfl) rfl B.all (by decide +kernel) (pa_cons (pe_lc (own := [("call", 2)]) rfl sc_is_path.nd (pi_any K (pv 0)) (blkOk_by (N := N_is_path) (sc := defScope s_is_path) (by decide +kernel)) (fun _ _ _ _ _ => (pg_name (i := 2) sc_is_path.nd rfl (Or.inl rfl))) (fun _ _ _ _ _ => pts_nil) (fun _ _ _ _ _ => (pe_cA c_is_call hr (by omega) rfl (pa_cons (pv 2) pa_nil)))) pa_nil))))), ?_⟩
  cases hd with
  | @tup a xs ds s r =>
    have hl := DpAll.length r
    have hfl := fit_tuple hf
    replace k : ∀ H', Evl.Ex H H' → Q (.bl (!(decide (ds.length = 0) || (!ag && decide (1 < ds.length))) && ds.all isCallD)) H' := k
    walk_at "rd"
    refine r_isi_tup_tuple s ?_
    walk_at "rx"
    refine r_lenT s ?_
    walk_at "rd"
    refine iteD (fun h1 => ?_) (fun h1 => ?_)
    · have h1 : (xs.length : Int) = 0 := by injection h1
      rw [decide_eq_true (show ds.length = 0 by omega)] at k
      walk_at "rd"
      exact k _ (Evl.Ex.refl _)
    · have h1 : ¬ (xs.length : Int) = 0 := fun e => h1 (by rw [e])
      rw [decide_eq_false (show ¬ ds.length = 0 by omega)] at k
      have tail : ∀ (D : Ends) (u2 : Option V), D.rt = Q → (!ag && decide (1 < ds.length)) = false → tRet (tCB (rAll K) (tCons (tLc (iAny K (tVar 0)) (gName 2) tYes (tCall (spB1 K isCallD) [] L2.E0 (tCons (tVar 2) tNil)) (List.map (fun x => x.snd) [(Str.ofString "call", 2)])) tNil)) D [some (.ref a), some (.bl ag), u2] H := by
        intro D u2 hD hz
        rw [hz] at k
        walk_at "rd"
        refine .inr (.inl ⟨a, rfl, ⟨_, s⟩, ?_⟩)
        intro D hD1
        refine lc_pure (walk_tup (K := K) (a := a) (xs := xs)) hD1 (fun i => xs.getD i .non) (fun i => .bl (isCallD (ds.getD i .none))) ?_ (fun _ e => Evl.ex_t e s) ?_ (by omega) ?_ ?_
        · rintro i H x H' hi _ ⟨e, hx⟩
          exact ⟨e, by rw [List.getD_eq_getElem?_getD, hx]; rfl⟩
        · exact fun _ => rfl
        · intro i hi H' e1 Q' q
          walk_at "rd"
          have hx : xs[i]? = some (xs.getD i .non) := by rw [List.getD_eq_getElem?_getD, List.getElem?_eq_getElem hi]; rfl
          obtain ⟨d, h1, h2⟩ := DpAll.get r hx
          refine ⟨_, d, rfl, Dp.mono e1 h2, fitAll_mem hfl.2 (List.mem_of_getElem? h1), fun H2 e2 => ?_⟩
          have := q _ e2
          rw [List.getD_eq_getElem?_getD (a := PyData.none), h1] at this
          exact this
        · intro H' e1 hD2
          walk_at "rd"
          refine r_all (bs := ds.map isCallD) ?_ ?_
          · rw [hD2]
            congr 2
            refine List.ext_getElem (by simp [hl]) fun i h1 h2 => ?_
            simp at h1 h2
            simp [List.getElem?_eq_getElem h2]
          · rw [List.all_map, hD]
            exact k _ e1
      walk_at "rd"
      refine ⟨ag, rfl, ?_⟩
      refine iteNB (fun h2 => ?_) (fun h2 => ?_)
      · subst h2
        walk_at "rd"
        refine r_lenT s ?_
        walk_at "rd"
        refine iteD (fun h3 => ?_) (fun h3 => ?_)
        · rw [decide_eq_true (show 1 < ds.length by omega)] at k
          walk_at "rd"
          exact k _ (Evl.Ex.refl _)
        · refine tail _ _ rfl ?_
          rw [decide_eq_false (show ¬ 1 < ds.length by omega)]
          rfl
      · refine tail _ _ rfl ?_
        rw [h2]
        rfl
  | lst s r => walk_at "rd"; refine r_isi_lst_tuple s ?_; walk_at "rx"; exact k _ (Evl.Ex.refl _)
  | _ => walk_at "rx"; exact k _ (Evl.Ex.refl _)
theorem c_is_path_1_ (F : AtD K mg "is_path" s_is_path [] [("ageing", .bl false)]) (B : Bl mg) (c_is_call : Cal P w K mg base 3 "is_call" (spB1 K isCallD)) : CalD P w K mg base 4 "is_path" (spPath K) [.bl false] :=
  calD0_of F sc_is_path (fun vs H Q E h => by obtain ⟨v, ag, d, rfl, _⟩ := h; rfl) (fun f cdv A outer s H vs Q E hr h => b_is_path B c_is_call hr h) 1 (by simp) rfl (fun D doc pm an cdv ct us ks h1 h2 => by
    match us, h1, ks, h2 with
    | [_], _, [_], _ => exact ⟨_, _, _, _, _, _, rfl, rfl, rfl⟩)
theorem c_is_path_1k1_ (F : AtD K mg "is_path" s_is_path [] [("ageing", .bl false)]) (B : Bl mg) (c_is_call : Cal P w K mg base 3 "is_call" (spB1 K isCallD)) : CalK P w K mg base 4 "is_path" (spPath K) 1 ["ageing"] :=
  calK_of F sc_is_path (fun vs H Q E h => by obtain ⟨v, ag, d, rfl, _⟩ := h; rfl) (fun f cdv A outer s H vs Q E hr h => b_is_path B c_is_call hr h) 1 _ (fun kV doc pm an cdv ct us ks h1 h2 => by
    match us, h1, ks, h2 with
    | [_], _, [_], _ => rfl)
theorem c_is_path_0k2_ (F : AtD K mg "is_path" s_is_path [] [("ageing", .bl false)]) (B : Bl mg) (c_is_call : Cal P w K mg base 3 "is_call" (spB1 K isCallD)) : CalK P w K mg base 4 "is_path" (spPath K) 0 ["thing", "ageing"] :=
  calK_of F sc_is_path (fun vs H Q E h => by obtain ⟨v, ag, d, rfl, _⟩ := h; rfl) (fun f cdv A outer s H vs Q E hr h => b_is_path B c_is_call hr h) 0 _ (fun kV doc pm an cdv ct us ks h1 h2 => by
    match us, h1, ks, h2 with
    | [], _, [_, _], _ => rfl)
end

end WP

set_option Elab.async false
set_option linter.all false
set_option maxRecDepth 100000
set_option maxHeartbeats 4000000
namespace WP
open PySem PySem.Spec PyProof.Rows L2
local macro_rules | `(tactic| walk_at "rd") => `(tactic| repeat (first
  | with_reducible refine r_seq ?_ | with_reducible refine r_callW ?_ | with_reducible refine r_tru ?_ | with_reducible refine r_var rfl ?_ | with_reducible refine r_c ?_ | with_reducible refine r_op ?_ | with_reducible refine r_cons ?_ | with_reducible refine r_nil ?_
  | with_reducible refine r_cb ?_ | with_reducible refine r_call ?_ | with_reducible refine r_test ?_ | with_reducible refine r_B ?_ | with_reducible refine r_bl ?_ | with_reducible refine r_asg ?_ | with_reducible refine r_asgS ?_
  | with_reducible refine r_ret ?_ | with_reducible refine r_drop ?_ | with_reducible refine r_ifS ?_ | with_reducible refine r_if ?_ | with_reducible refine r_and ?_ | with_reducible refine r_or ?_ | with_reducible refine r_not ?_
  | with_reducible refine r_andV ?_ | with_reducible refine r_orV ?_ | with_reducible refine r_notV ?_ | with_reducible refine r_chain ?_ | with_reducible refine r_sl ?_ | with_reducible refine r_nopart ?_ | with_reducible refine r_part ?_
  | with_reducible refine r_intO ?_ | with_reducible refine r_two ?_ | with_reducible refine r_m1 ?_ | with_reducible refine r_bm ?_ | with_reducible refine r_next ?_ | with_reducible refine r_gCons ?_ | with_reducible refine r_gNil ?_ | with_reducible refine r_asgT ?_ | with_reducible refine r_for ?_ | with_reducible refine r_rng1 ?_ | with_reducible refine r_iList ?_ | with_reducible refine r_iAny ?_ | with_reducible refine r_lc ?_ | with_reducible refine r_yes ?_ | with_reducible refine r_gN ?_ | with_reducible refine r_par ?_ | with_reducible refine r_un ?_ | with_reducible refine r_brk ?_ | with_reducible refine r_cont ?_
  | with_reducible refine r_I0 ?_ | with_reducible refine r_U ?_ | with_reducible refine r_addI ?_ | with_reducible refine r_abs ?_ | with_reducible refine r_intI ?_ | with_reducible refine r_max2 ?_ | with_reducible refine r_min2 ?_
  | with_reducible refine r_ltI ?_ | with_reducible refine r_leI ?_ | with_reducible refine r_gtI ?_ | with_reducible refine r_geI ?_ | with_reducible refine r_isN_non ?_ | with_reducible refine r_isN_int ?_ | with_reducible refine r_isN_str ?_ | with_reducible refine r_isN_bl ?_ | with_reducible refine r_isN_ref ?_ | with_reducible refine r_isN ?_ | with_reducible refine r_isB ?_ | with_reducible refine r_isnotN_non ?_ | with_reducible refine r_isnotN_int ?_ | with_reducible refine r_isnotN_str ?_ | with_reducible refine r_isnotN_bl ?_ | with_reducible refine r_isnotN_ref ?_ | with_reducible refine r_isnotN ?_ | with_reducible refine r_isnotB ?_
  | with_reducible refine r_inS ?_ | with_reducible refine r_eqS rfl ?_ | with_reducible refine r_neS rfl ?_ | with_reducible refine r_lst ?_ | with_reducible refine r_tup ?_ | with_reducible refine iteT ?_ | with_reducible refine iteF ?_))
local macro_rules | `(tactic| walk_at "isi") => `(tactic| (first
  | with_reducible refine r_isi_non_int ?_
  | with_reducible refine r_isi_non_str ?_
  | with_reducible refine r_isi_non_list ?_
  | with_reducible refine r_isi_non_tuple ?_
  | with_reducible refine r_isi_non_bool ?_
  | with_reducible refine r_isi_bl_int ?_
  | with_reducible refine r_isi_bl_str ?_
  | with_reducible refine r_isi_bl_list ?_
  | with_reducible refine r_isi_bl_tuple ?_
  | with_reducible refine r_isi_bl_bool ?_
  | with_reducible refine r_isi_int_int ?_
  | with_reducible refine r_isi_int_str ?_
  | with_reducible refine r_isi_int_list ?_
  | with_reducible refine r_isi_int_tuple ?_
  | with_reducible refine r_isi_int_bool ?_
  | with_reducible refine r_isi_str_int ?_
  | with_reducible refine r_isi_str_str ?_
  | with_reducible refine r_isi_str_list ?_
  | with_reducible refine r_isi_str_tuple ?_
  | with_reducible refine r_isi_str_bool ?_
  | with_reducible refine r_isi_lst_int (SqL.of (by assumption)) ?_
  | with_reducible refine r_isi_lst_str (SqL.of (by assumption)) ?_
  | with_reducible refine r_isi_lst_list (SqL.of (by assumption)) ?_
  | with_reducible refine r_isi_lst_tuple (SqL.of (by assumption)) ?_
  | with_reducible refine r_isi_lst_bool (SqL.of (by assumption)) ?_
  | with_reducible refine r_isi_tup_int (SqT.of (by assumption)) ?_
  | with_reducible refine r_isi_tup_str (SqT.of (by assumption)) ?_
  | with_reducible refine r_isi_tup_list (SqT.of (by assumption)) ?_
  | with_reducible refine r_isi_tup_tuple (SqT.of (by assumption)) ?_
  | with_reducible refine r_isi_tup_bool (SqT.of (by assumption)) ?_))
local macro_rules | `(tactic| walk_at "rs") => `(tactic| (first
  | ((with_reducible refine iteTc ?hc ?_); (case hc => rfl)) | ((with_reducible refine iteFc ?hc ?_); (case hc => rfl))
  | walk_at "isi"
  | refine r_ixL (SqL.of (by assumption)) rfl ?_ | refine r_ixL (SqL.of upd_same) rfl ?_
  | refine r_I (C := fun _ j => 0 < j) (by first | decide | assumption | omega) ?_
  | refine r_mulI (.inl ⟨by decide, by decide⟩) ?_ | refine r_mulI (.inr ⟨by decide, by decide⟩) ?_ | refine r_mulI (.inr ⟨by omega, by omega⟩) ?_ | refine r_mulI (.inl ⟨by omega, by omega⟩) ?_
  | refine r_I (wide_div (b := 64) (by decide) (by decide) (by decide) (by decide)) ?_
  | refine r_I (C := CPow) ⟨by decide, by decide, by decide⟩ ?_
  | refine r_setL (by assumption) rfl ?_ | refine r_setL upd_same rfl ?_))
local macro_rules | `(tactic| walk_at "rx") => `(tactic| (walk_at "rd"; (repeat (walk_at "rs"; walk_at "rd"))))

def spLaw (K : PySem.W.Frag) : Sp := fun vs H Q _ => ∃ (a : Addr) (ns : List Int), vs = [.ref a] ∧ SqL K H a (ns.map V.int) ∧ ns.length ≤ 63 ∧ ∀ H', Q (.bl true) H'
abbrev s_law : Stmt := top 23
abbrev N_law : List Str := ["_law_script", "_law_at", "_law_bag_here", "_law_some", "_law_turn", "_law_wrong", "_law_is_right", "_law_path", "_law_due", "_law_one"]
theorem sc_law : FnScope N_law ["_law_script"] (defScope s_law) := ⟨rfl, rfl, rfl, by decide +kernel, rfl, by decide +kernel, by decide +kernel⟩
def forBody : Stmt → List Stmt
  | .For _ _ b _ _ => b
  | _ => []
theorem fitL {ds : List PyData} (h1 : fitAll ds = true) (h2 : ds.length ≤ 100000) : fit (.list ds) = true := by rw [fit, h1, Bool.and_true]; exact decide_eq_true h2
theorem fitT {ds : List PyData} (h1 : fitAll ds = true) (h2 : ds.length ≤ 100000) : fit (.tuple ds) = true := by rw [fit, h1, Bool.and_true]; exact decide_eq_true h2
section
variable {P : Program} {w : World} {K : PySem.W.Frag} {mg : Str → Option Value} {base : Heap}
theorem dpAll_set {H : Hp} {wv : V} {dw : PyData} : ∀ {xs : List V} {ds : List PyData} {j : Nat}, DpAll K H xs ds → Dp K H wv dw → DpAll K H (xs.set j wv) (ds.set j dw)
  | _, _, j, .nil, _ => .nil
  | _, _, 0, .cons a r, h => .cons h r
  | _, _, j + 1, .cons a r, h => .cons a (dpAll_set (j := j) r h)
theorem c_law {f : Addr} {fd : FuncData} (F : FunD K "law" "law" (defArgs s_law) (defBody s_law) (defScope s_law) [] [] f fd) (B : Bl mg) (c_law_take : Cal P w K mg base 1 "_law_take" spTake) (c_law_of : Cal P w K mg base 2 "_law_of" (spOf K))
    (c_law_any_call : Cal P w K mg base 5 "_law_any_call" spACall) (c_law_bag : Cal P w K mg base 1 "_law_bag" (spBag K))
    (c_is_path_1 : CalD P w K mg base 4 "is_path" (spPath K) [.bl false]) (c_is_path_1k1 : CalK P w K mg base 4 "is_path" (spPath K) 1 ["ageing"]) (c_is_path_0k2 : CalK P w K mg base 4 "is_path" (spPath K) 0 ["thing", "ageing"]) : FnOk P w K mg base L2.CX0 7 f fd ["_law_script"] (spLaw K) := by
  refine fnok_of F sc_law (fun vs H Q E h => ?_) (fun cdv A outer s H vs Q E hr h => ?_)
  · obtain ⟨a, ns, rfl, _⟩ := h
    rfl
  · obtain ⟨a, ns, rfl, hs, hns, k⟩ := h
    obtain ⟨u, hu, htail⟩ : ∃ u, PSs (cxOf L2.CX0 P w K mg base N_law "law" (defScope s_law) f cdv A outer s H E).nox ((forBody ((defBody s_law).getD 0 (.Pass ⟨0, 0, 0, 0⟩))).drop 7) u ∧
        ∀ (D : Ends) (L p pd : Addr) (H9 : Hp) (ys : List V) (ds : List PyData) (d1 d2 : Bool) (u1 u2 u4 u5 u6 u9 : Option V), H9 L = some (.lst ys) → H9 p = some (.tup ys) → H9 pd = some (.tup [.bl d1, .bl d2]) → DpAll K H9 ys ds → fitAll ds = true → ds.length ≤ 9 →
          isPathD false (.tuple ds) = d1 → isPathD true (.tuple ds) = d2 →
          (∀ (σ : L2.St) (H' : Hp), (∃ w1 w2 w3 w4 w5 w6 w7 w8 w9 : Option V, σ = [some (.ref a), w1, w2, w3, w4, w5, w6, w7, w8, w9]) → Evl.Ex H9 H' → D.nx σ H') →
          u D [some (.ref a), u1, u2, some (.ref L), u4, u5, u6, some (.ref p), some (.ref pd), u9] H9 := by
      refine ⟨_, (pss_cons (ps_if (PW.pt (pw_or (pt_cmpR (op_neA K hr.units) (pe_tup (pa_cons (pe_cD c_is_path_1 hr (by omega) rfl (pa_cons (pv 7) pa_nil)) (pa_cons (pe_cK c_is_path_1k1 hr (by omega) rfl (pa_cons (pv 7) pa_nil) (pk_cons pe_bl pk_nil)) pa_nil))) (pv 8) (nomark _)) (pw_or1 (pt_cmpR (op_neA K hr.units) (pe_cK c_is_path_1k1 hr (by omega) rfl (pa_cons (pv 7) pa_nil) (pk_cons pe_bl pk_nil)) (pe_ix (ix_A K) (pv 8) pe_int (fun _ _ => rfl)) (nomark _)))))
   (pss_one (ps_ret pe_bl))
   pss_nil)
  (pss_cons (ps_if (pt_cmpR (op_neA K hr.units) (pe_cK0 c_is_path_0k2 hr (by omega) rfl (pk_cons (pv 7) (pk_cons pe_bl pk_nil))) (pe_ix (ix_A K) (pv 8) pe_int (fun _ _ => rfl)) (nomark _))
   (pss_one (ps_ret pe_bl))
   pss_nil)
  (pss_one (ps_for PassesOwn.never rfl (pi_any K (pe_lst (pa_cons (pv 3) (pa_cons pe_non (pa_cons pe_int (pa_cons pe_bl (pa_cons pe_str (pa_cons (pe_lst (pa_cons pe_str pa_nil)) (pa_cons (pe_tup pa_nil) pa_nil))))))))) (pg_name (i := 9) sc_law.nd rfl (Or.inl rfl))
   (pss_one (ps_if (PW.pt (pw_or (pt_cmpR op_isnotA (pe_cD c_is_path_1 hr (by omega) rfl (pa_cons (pv 9) pa_nil)) pe_bl (nomark _)) (pw_or1 (pt_cmpR op_isnotA (pe_cK c_is_path_1k1 hr (by omega) rfl (pa_cons (pv 9) pa_nil) (pk_cons pe_bl pk_nil)) pe_bl (nomark _)))))
   (pss_one (ps_ret pe_bl))
   pss_nil)))))), ?_⟩
      intro D L p pd H9 ys ds d1 d2 u1 u2 u4 u5 u6 u9 hL hp hpd hdp hfa hdl e1 e2 hD
      have hfT := fitT hfa (by omega)
      have hfL := fitL hfa (by omega)
      walk_at "rd"
      refine ⟨_, false, _, rfl, .tup (SqT.of hp) hdp, hfT, fun H10 x10 => ?_⟩
      walk_at "rd"
      refine ⟨rfl, rfl, _, true, _, rfl, .tup (SqT.of (x10 _ _ hp)) (DpAll.mono x10 hdp), hfT, fun H11 x11 => ?_⟩
      replace x11 := x10.trans x11
      walk_at "rd"
      refine ⟨by show 2 ≤ sizeLine; decide, fun q hq => ?_⟩
      have x12 := x11.trans (Evl.Ex.new (o := .tup [.bl (isPathD false (.tuple ds)), .bl (isPathD true (.tuple ds))]) hq)
      walk_at "rd"
      refine r_neDF (d := .tuple [.bool d1, .bool d2]) (Dp.tup (SqT.of upd_same) (by rw [e1, e2]; exact .cons (.bl _) (.cons (.bl _) .nil))) (Dp.tup (SqT.of (x12 _ _ hpd)) (.cons (.bl _) (.cons (.bl _) .nil))) (by simp [SeqAt.shaped, PyData.canLay0, PyData.canLayAll0, PyData.depth, PyData.depthAll]) ?_
      generalize upd H11 q (HO.tup _) = H12 at x12 ⊢
      walk_at "rd"
      refine ⟨rfl, rfl, _, false, _, rfl, .tup (SqT.of (x12 _ _ hp)) (DpAll.mono x12 hdp), hfT, fun H13 x13 => ?_⟩
      replace x13 := x12.trans x13
      walk_at "rd"
      refine r_ixT (SqT.of (x13 _ _ hpd)) (atI_nat (j := 0) rfl) ?_
      walk_at "rd"
      refine iteNY (by rw [e1]) ?_
      walk_at "rd"
      refine ⟨rfl, rfl, _, true, _, rfl, .tup (SqT.of (x13 _ _ hp)) (DpAll.mono x13 hdp), hfT, fun H14 x14 => ?_⟩
      replace x14 := x13.trans x14
      walk_at "rd"
      refine r_ixT (SqT.of (x14 _ _ hpd)) (atI_nat (j := 1) rfl) ?_
      walk_at "rd"
      refine iteNY (by rw [e2]) ?_
      walk_at "rd"
      refine ⟨by show 1 ≤ sizeLine; decide, fun q1 hq1 => ?_⟩
      have x15 := x14.trans (Evl.Ex.new (o := .lst [.str "f()"]) hq1)
      have hq1' : upd H14 q1 (.lst [.str "f()"]) q1 = some (.lst [.str "f()"]) := upd_same
      generalize upd H14 q1 (HO.lst _) = H15 at x15 hq1' ⊢
      walk_at "rd"
      refine ⟨Nat.zero_le _, fun q2 hq2 => ?_⟩
      have y16 := Evl.Ex.new (o := .tup []) hq2
      have x16 := x15.trans y16
      have hq2' : upd H15 q2 (.tup []) q2 = some (.tup []) := upd_same
      replace hq1' := y16 _ _ hq1'
      generalize upd H15 q2 (HO.tup _) = H16 at x16 y16 hq1' hq2' ⊢
      walk_at "rd"
      refine ⟨by show 7 ≤ sizeLine; decide, fun M hM => ?_⟩
      have y17 := Evl.Ex.new (o := .lst [.ref L, .non, .int 0, .bl true, .str "f()", .ref q1, .ref q2]) hM
      have x17 := x16.trans y17
      have hM' : upd H16 M (.lst [.ref L, .non, .int 0, .bl true, .str "f()", .ref q1, .ref q2]) M = some (.lst [.ref L, .non, .int 0, .bl true, .str "f()", .ref q1, .ref q2]) := upd_same
      replace hq1' := y17 _ _ hq1'
      replace hq2' := y17 _ _ hq2'
      generalize upd H16 M (HO.lst _) = H17 at x17 hM' hq1' hq2' ⊢
      clear y17 y16 x16 x15 x14 x13 x12 x11 x10
      refine .inl ⟨M, rfl, ⟨_, SqL.of hM'⟩, for_list (K := K) (a := M) (xs := [.ref L, .non, .int 0, .bl true, .str "f()", .ref q1, .ref q2]) (fun i σ H' => Evl.Ex H17 H' ∧ ∃ w1 w2 w3 w4 w5 w6 w7 w8 w9 : Option V, σ = [some (.ref a), w1, w2, w3, w4, w5, w6, w7, w8, w9]) ?_ ?_ ?_ ?_⟩
      · exact ⟨Evl.Ex.refl _, _, _, _, _, _, _, _, _, _, rfl⟩
      · rintro i σ H' _ ⟨e, _⟩
        exact SqL.of (e _ _ hM')
      · rintro j x σ H18 hx ⟨e18, w1, w2, w3, w4, w5, w6, w7, w8, w9, rfl⟩
        obtain ⟨d, hd, hdf, hdc⟩ : ∃ d, Dp K H18 x d ∧ fit d = true ∧ ∀ ag, isPathD ag d = false := by
          have hm := List.mem_of_getElem? hx
          simp only [List.mem_cons, List.not_mem_nil, or_false] at hm
          rcases hm with rfl | rfl | rfl | rfl | rfl | rfl | rfl
          · exact ⟨_, .lst (SqL.of ((x17.trans e18) _ _ hL)) (DpAll.mono (x17.trans e18) hdp), hfL, fun _ => rfl⟩
          · exact ⟨_, .non, by rw [fit], fun _ => rfl⟩
          · exact ⟨_, .int 0, by rw [fit], fun _ => rfl⟩
          · exact ⟨_, .bl true, by rw [fit], fun _ => rfl⟩
          · exact ⟨_, .str _, by decide +kernel, fun _ => rfl⟩
          · exact ⟨_, .lst (SqL.of (e18 _ _ hq1')) (.cons (.str _) .nil), by decide +kernel, fun _ => rfl⟩
          · exact ⟨_, .tup (SqT.of (e18 _ _ hq2')) .nil, by decide +kernel, fun _ => rfl⟩
        walk_at "rd"
        refine ⟨_, false, d, rfl, hd, hdf, fun H19 e19 => ?_⟩
        rw [hdc]
        walk_at "rd"
        refine iteNY rfl ?_
        walk_at "rd"
        refine ⟨rfl, rfl, _, true, d, rfl, Dp.mono e19 hd, hdf, fun H20 e20 => ?_⟩
        rw [hdc]
        walk_at "rd"
        refine iteNY rfl ?_
        walk_at "rd"
        exact ⟨(e18.trans e19).trans e20, _, _, _, _, _, _, _, _, _, rfl⟩
      · rintro σ H' ⟨e, w1, w2, w3, w4, w5, w6, w7, w8, w9, rfl⟩
        exact hD _ _ ⟨_, _, _, _, _, _, _, _, _, rfl⟩ (x17.trans e)
    refine ⟨_, (pss_cons (ps_for PassesOwn.never rfl (pi_range1 rfl B.range (pa_cons (pe_callB (call_max2A rfl) rfl B.max (by decide +kernel) (pa_cons pe_int (pa_cons (pe_callB (call_min2A rfl) rfl B.min (by decide +kernel) (pa_cons pe_int (pa_cons (pe_callB (call_lenA K) rfl B.len (by decide +kernel) (pa_cons (pv 0) pa_nil)) pa_nil))) pa_nil))) pa_nil)) (pg_name (i := 1) sc_law.nd rfl (Or.inl rfl))
   (pss_cons (ps_set (i := 2) sc_law.nd rfl (Or.inr rfl) (pe_cA c_law_bag hr (by omega) rfl (pa_cons (pv 0) (pa_cons (pv 1) pa_nil))))
  (pss_cons (ps_setLc (i := 3) (own := [("_law_turn", 4)]) rfl sc_law.nd rfl rfl (sw_true rfl rfl rfl (by decide +kernel)) (pi_range1 rfl B.range (pa_cons (pe_cA c_law_of hr (by omega) rfl (pa_cons (pv 2) (pa_cons (pe_lst (pa_cons pe_int (pa_cons pe_int (pa_cons pe_int (pa_cons pe_int (pa_cons (pe_cA c_law_take hr (by omega) rfl (pa_cons (pv 2) (pa_cons pe_int pa_nil))) pa_nil)))))) pa_nil))) pa_nil)) (blkOk_by (N := N_law) (sc := defScope s_law) (by decide +kernel)) (fun _ _ _ _ _ => (pg_name (i := 4) sc_law.nd rfl (Or.inl rfl))) (fun _ _ _ _ _ => pts_nil) (fun _ _ _ _ _ => (pe_cA c_law_any_call hr (by omega) rfl (pa_cons (pv 2) pa_nil))))
  (pss_cons (ps_set (i := 5) sc_law.nd rfl (Or.inl rfl) (pe_cA c_law_of hr (by omega) rfl (pa_cons (pv 2) (pa_cons (pe_lst (pa_cons pe_non (pa_cons pe_str (pa_cons pe_str (pa_cons pe_int (pa_cons pe_bl (pa_cons (pe_tup (pa_cons pe_str pa_nil)) (pa_cons (pe_lst (pa_cons pe_str pa_nil)) (pa_cons pe_str (pa_cons pe_str (pa_cons pe_str pa_nil))))))))))) pa_nil))))
  (pss_cons (ps_set (i := 6) sc_law.nd rfl (Or.inl rfl) (pe_or (pe_cmpR (op_eqA K hr.units) (pe_cA c_law_take hr (by omega) rfl (pa_cons (pv 2) (pa_cons pe_int pa_nil))) pe_int (nomark _)) (pe_one (pe_cmpR (op_eqA K hr.units) (pv 3) (pe_lst pa_nil) (nomark _)))))
  (pss_cons (ps_if (pt_not (pt_val (pv 6)))
   (pss_one (ps_asg (pv 5) (pg_sub (pv 3) (pe_cA c_law_take hr (by omega) rfl (pa_cons (pv 2) (pa_cons (pe_callB (call_lenA K) rfl B.len (by decide +kernel) (pa_cons (pv 3) pa_nil)) pa_nil))) set_list)))
   pss_nil)
  (pss_cons (ps_set (i := 7) sc_law.nd rfl (Or.inl rfl) (pe_callTy (call_tupleA K) rfl B.tuple (by decide +kernel) (pa_cons (pv 3) pa_nil)))
  (pss_cons (ps_set (i := 8) sc_law.nd rfl (Or.inl rfl) (pe_tup (pa_cons (pe_and (pv 6) (pe_one (pe_cmpR (op_eqA K hr.units) (pe_callB (call_lenA K) rfl B.len (by decide +kernel) (pa_cons (pv 3) pa_nil)) pe_int (nomark _)))) (pa_cons (pe_and (pv 6) (pe_one (pe_cmpR op_gtA (pe_callB (call_lenA K) rfl B.len (by decide +kernel) (pa_cons (pv 3) pa_nil)) pe_int (nomark _)))) pa_nil))))
  hu))))))))
  (pss_one (ps_ret pe_bl))), ?_⟩
    walk_at "rd"
    refine r_lenL hs ?_
    walk_at "rd"
    rw [List.length_map]
    generalize hN : (if (if (ns.length : Int) < 16 then (ns.length : Int) else 16) > 1 then (if (ns.length : Int) < 16 then (ns.length : Int) else 16) else 1) = N
    have hN1 : N ≤ 63 := by rw [← hN]; split <;> split <;> omega
    have hN0 : 0 ≤ N := by rw [← hN]; split <;> split <;> omega
    refine ⟨_, rfl, by omega, by omega, for_range (lo := 0) (n := N.toNat) (fun i σ H' => (∃ w1 w2 w3 w4 w5 w6 w7 w8 w9 : Option V, σ = [some (.ref a), w1, w2, w3, w4, w5, w6, w7, w8, w9]) ∧ Evl.Ex H H') ?_ ?_ ?_⟩
    · exact ⟨⟨_, _, _, _, _, _, _, _, _, rfl⟩, Evl.Ex.refl _⟩
    · rintro i σ H0 hi ⟨⟨w1, w2, w3, w4, w5, w6, w7, w8, w9, rfl⟩, e0⟩
      walk_at "rd"
      refine ⟨a, ns, i, by rw [Int.zero_add]; rfl, Evl.ex_l e0 hs, by omega, hns, fun b l hb hl => ?_⟩
      have eb : hid b (upd H0 b (.lst l)) = H0 := hid_start hb
      generalize hH1 : upd H0 b (.lst l) = H1 at eb
      have b1 : Bag b 0 H1 := ⟨l, by rw [← hH1]; exact upd_same, hl⟩
      clear hH1
      walk_at "rd"
      refine ⟨b, _, _, rfl, b1, by omega, by decide, by decide, fun d H2 hd0 hd1 r2 => ?_⟩
      walk_at "rd"
      refine ⟨by show 5 ≤ sizeLine; decide, fun p0 hp0 => ?_⟩
      obtain ⟨r3, hq3⟩ := r2.bag.new (o := .lst [.int 0, .int 1, .int 1, .int 2, .int d]) hp0
      replace r3 := r2.trans r3
      walk_at "rd"
      refine ⟨b, _, _, rfl, r3.bag, by omega, .inl ⟨p0, _, rfl, .inl (SqL.of hq3), by simp, by simp, fun y hy H3 r4 => ?_⟩⟩
      replace r4 := r3.trans r4
      obtain ⟨m, rfl, hm⟩ : ∃ m : Nat, y = .int m ∧ m ≤ 9 := by
        simp only [List.mem_cons, List.not_mem_nil, or_false] at hy
        rcases hy with rfl | rfl | rfl | rfl | rfl
        · exact ⟨0, rfl, by omega⟩
        · exact ⟨1, rfl, by omega⟩
        · exact ⟨1, rfl, by omega⟩
        · exact ⟨2, rfl, by omega⟩
        · obtain ⟨m, rfl⟩ := Int.eq_ofNat_of_zero_le hd0
          exact ⟨m, rfl, by omega⟩
      clear hy hq3 r3 r2
      refine ⟨_, rfl, by omega, by omega, fun L hLn => ?_⟩
      have hL0 : H0 L = none := by
        cases e : H0 L with
        | none => rfl
        | some o =>
          have := hid_get (r4.ex _ _ (by rw [eb]; exact e))
          rw [hLn] at this
          cases this
      refine lc_draw (m := (m : Int).toNat) (c := 150) hLn r4.bag (by omega) (fun _ v => ∃ z, v = .str z ∧ CallOk z) (fun _ _ _ _ h => h) ?_ ?_ ?_
      · exact fun _ => rfl
      · intro i H' hi r4 Q' q
        walk_at "rd"
        exact ⟨b, _, rfl, r4.bag, by omega, fun z H'' h1 r5 => q _ H'' ⟨z, rfl, h1⟩ r5⟩
      · intro H4 xs hxl hI hL4 nLb r5
        replace hL4 := hid_of hL4 nLb
        replace r5 := r4.trans r5
        have hxl9 : xs.length ≤ 9 := by omega
        have hsc : ∀ v ∈ xs, Sc v := fun v hv => by
          obtain ⟨z, rfl, hz⟩ := hI v hv
          exact (fit_str hz.fit).2
        have hfi : ∀ d ∈ xs.map datV, fit d = true ∧ isCallD d = true := by
          intro d hd
          obtain ⟨v, hv, rfl⟩ := List.mem_map.mp hd
          obtain ⟨z, rfl, hz⟩ := hI v hv
          exact ⟨hz.fit, hz.is⟩
        have hal : (xs.map datV).all isCallD = true := List.all_eq_true.mpr fun d hd => (hfi d hd).2
        walk_at "rd"
        refine ⟨by show 1 ≤ sizeLine; decide, fun p1 hp1 => ?_⟩
        obtain ⟨r6, hq6⟩ := r5.bag.new (o := .tup [.str "f()"]) hp1
        replace hL4 := r6.ex _ _ hL4
        replace r6 := r5.trans r6
        walk_at "rd"
        refine ⟨by show 1 ≤ sizeLine; decide, fun p2 hp2 => ?_⟩
        have n2 : p2 ≠ L := fun e => by rw [e, hid_get hL4] at hp2; cases hp2
        obtain ⟨r7, hq7⟩ := r6.bag.new (o := .lst [.str "f()"]) hp2
        replace hL4 := r7.ex _ _ hL4
        replace hq6 := r7.ex _ _ hq6
        replace r7 := r6.trans r7
        walk_at "rd"
        refine ⟨by show 10 ≤ sizeLine; decide, fun p3 hp3 => ?_⟩
        obtain ⟨r8, hq8⟩ := r7.bag.new (o := .lst [.non, .str "f", .str "f( )", .int 0, .bl true, .ref p1, .ref p2, .str "", .str "let()", .str "f(1,2)"]) hp3
        replace hL4 := r8.ex _ _ hL4
        replace hq6 := r8.ex _ _ hq6
        replace hq7 := r8.ex _ _ hq7
        replace r8 := r7.trans r8
        walk_at "rd"
        refine ⟨b, _, _, rfl, r8.bag, by omega, .inl ⟨p3, _, rfl, .inl (SqL.of hq8), by simp, by simp, fun wv hwv H9 r9 => ?_⟩⟩
        replace hL4 := r9.ex _ _ hL4
        replace hq6 := r9.ex _ _ hq6
        replace hq7 := r9.ex _ _ hq7
        replace r9 := r8.trans r9
        obtain ⟨dw, hdw, hdwf, hdwc⟩ : ∃ dw, Dp K (hid L (hid b H9)) wv dw ∧ fit dw = true ∧ isCallD dw = false := by
          have n1 : p1 ≠ L := fun e => by rw [e, hL4] at hq6; cases hq6
          simp only [List.mem_cons, List.not_mem_nil, or_false] at hwv
          rcases hwv with rfl | rfl | rfl | rfl | rfl | rfl | rfl | rfl | rfl | rfl
          · exact ⟨_, .non, by rw [fit], rfl⟩
          · exact ⟨_, .str _, by decide +kernel, by decide +kernel⟩
          · exact ⟨_, .str _, by decide +kernel, by decide +kernel⟩
          · exact ⟨_, .int 0, by rw [fit], rfl⟩
          · exact ⟨_, .bl true, by rw [fit], rfl⟩
          · exact ⟨_, .tup (SqT.of (hid_of hq6 n1)) (.cons (.str _) .nil), by decide +kernel, rfl⟩
          · exact ⟨_, .lst (SqL.of (hid_of hq7 n2)) (.cons (.str _) .nil), by decide +kernel, rfl⟩
          · exact ⟨_, .str _, by decide +kernel, by decide +kernel⟩
          · exact ⟨_, .str _, by decide +kernel, by decide +kernel⟩
          · exact ⟨_, .str _, by decide +kernel, by decide +kernel⟩
        clear hwv hq6 hq7 hq8
        walk_at "rd"
        refine ⟨b, _, _, rfl, r9.bag, by omega, by decide, by decide, fun d2 H10 hd20 hd21 r10 => ?_⟩
        replace hL4 := r10.ex _ _ hL4
        replace hdw := Dp.mono (hid_mono r10.ex) hdw
        replace r10 := r9.trans r10
        have eH10 : Evl.Ex H0 H10 := by
          have := r10.ex
          rw [eb] at this
          exact this.trans hid_ex
        have hend : ∀ (σ : L2.St) (H' : Hp), (∃ w1 w2 w3 w4 w5 w6 w7 w8 w9 : Option V, σ = [some (.ref a), w1, w2, w3, w4, w5, w6, w7, w8, w9]) → Evl.Ex H0 H' → (∃ w1 w2 w3 w4 w5 w6 w7 w8 w9 : Option V, σ = [some (.ref a), w1, w2, w3, w4, w5, w6, w7, w8, w9]) ∧ Evl.Ex H H' := fun σ H' h1 h2 => ⟨h1, e0.trans h2⟩
        have hL10 := hid_get hL4
        have hfall : fitAll (xs.map datV) = true := fitAll_of fun d hd => (hfi d hd).1
        have hlm : (xs.map datV).length = xs.length := List.length_map ..
        walk_at "rd"
        refine iteD (fun h1 => ?_) (fun h1 => ?_)
        · walk_at "rd"
          refine iteFc rfl ?_
          walk_at "rd"
          refine ⟨L, xs, rfl, .inl ⟨SqL.of hL10, fun p hp => ?_⟩⟩
          have e11 := Evl.Ex.new (o := .tup xs) hp
          walk_at "rd"
          refine r_lenL (SqL.of (e11 _ _ hL10)) ?_
          walk_at "rd"
          refine r_lenL (SqL.of (e11 _ _ hL10)) ?_
          walk_at "rd"
          refine ⟨by show 2 ≤ sizeLine; decide, fun pd hpd => ?_⟩
          have e12 := Evl.Ex.new (o := .tup [.bl (decide (V.int (xs.length : Int) = .int 1)), .bl (decide ((xs.length : Int) > 0))]) hpd
          refine r_next ?_
          refine htail _ L p pd _ xs (xs.map datV) _ _ _ _ _ _ _ _ (e12 _ _ (e11 _ _ hL10)) (e12 _ _ upd_same) upd_same (dpAll_sc hsc) hfall (by omega) ?_ ?_ fun σ H' h1 h2 => hend _ _ h1 (((eH10.trans e11).trans e12).trans h2)
          · show (!(decide ((xs.map datV).length = 0) || (!false && decide (1 < (xs.map datV).length))) && (xs.map datV).all isCallD) = _
            rw [hal, hlm]
            by_cases c0 : xs.length = 0
            · simp [c0]
            · by_cases c1 : xs.length = 1
              · simp [c1]
              · have cc : 1 < xs.length := by omega
                rw [decide_eq_false c0, decide_eq_true cc, show decide (V.int (xs.length : Int) = V.int 1) = false from decide_eq_false fun e => by injection e with e; omega]
                rfl
          · show (!(decide ((xs.map datV).length = 0) || (!true && decide (1 < (xs.map datV).length))) && (xs.map datV).all isCallD) = _
            rw [hal, hlm]
            by_cases c0 : xs.length = 0
            · simp [c0]
            · simp [c0]; omega
        · walk_at "rd"
          refine ⟨Nat.zero_le _, fun q hq => ?_⟩
          have e11 := Evl.Ex.new (o := .lst []) hq
          have hL11 := e11 _ _ hL10
          have nqL : q ≠ L := fun e => by rw [e, hL10] at hq; cases hq
          have hdw11 := Dp.mono (hid_mono (L := L) ((hid_mono (L := b) e11))) hdw
          have r11 := r10.bag.ex e11
          refine r_eqD (Dp.lst (SqL.of hL11) (dpAll_sc hsc)) (Dp.lst (SqL.of upd_same) .nil) (shaped_list hsc) (by decide +kernel) ?_
          generalize upd H10 q (HO.lst []) = H11 at e11 hL11 hdw11 r11 ⊢
          match xs, hI, hxl9, hsc, hfi, hal, hL10, hfall, hlm, hL11 with
          | [], hI, hxl9, hsc, hfi, hal, hL10, hfall, hlm, hL11 =>
            rw [show PyData.eqv (.list (([] : List V).map datV)) (.list []) = true by decide +kernel]
            walk_at "rd"
            refine iteFc rfl ?_
            walk_at "rd"
            refine ⟨L, [], rfl, .inl ⟨SqL.of hL11, fun p hp => ?_⟩⟩
            have e12 := Evl.Ex.new (o := .tup []) hp
            walk_at "rd"
            refine r_lenL (SqL.of (e12 _ _ hL11)) ?_
            walk_at "rd"
            refine r_lenL (SqL.of (e12 _ _ hL11)) ?_
            walk_at "rd"
            refine ⟨by show 2 ≤ sizeLine; decide, fun pd hpd => ?_⟩
            have e13 := Evl.Ex.new (o := .tup [.bl (decide (V.int (([] : List V).length : Int) = .int 1)), .bl (decide ((([] : List V).length : Int) > 0))]) hpd
            refine r_next ?_
            refine htail _ L p pd _ [] [] _ _ _ _ _ _ _ _ (e13 _ _ (e12 _ _ hL11)) (e13 _ _ upd_same) upd_same .nil rfl (by simp) (by decide +kernel) (by decide +kernel) fun σ H' h1 h2 => hend _ _ h1 ((((eH10.trans e11).trans e12).trans e13).trans h2)
          | v :: xr, hI, hxl9, hsc, hfi, hal, hL10, hfall, hlm, hL11 =>
            rw [show PyData.eqv (.list ((v :: xr).map datV)) (.list []) = false by rw [PyData.eqv, List.map_cons, PyData.eqvAll]]
            walk_at "rd"
            refine iteTc rfl ?_
            walk_at "rd"
            refine r_lenL (SqL.of hL11) ?_
            walk_at "rd"
            refine ⟨b, _, _, rfl, r11.bag, by omega, by rw [List.length_cons]; omega, by rw [List.length_cons] at hxl9 ⊢; omega, fun d3 H12 hd30 hd31 r12 => ?_⟩
            obtain ⟨j, rfl⟩ := Int.eq_ofNat_of_zero_le hd30
            have hL12 := hid_get (r12.ex _ _ (hid_of hL11 nLb.symm.symm))
            replace hdw11 := Dp.mono (hid_mono r12.ex) hdw11
            have e12 : Evl.Ex H0 H12 := by
              have := ((r10.trans r11).trans r12).ex
              rw [eb] at this
              exact this.trans hid_ex
            refine r_setL hL12 (Evl.ixN_nat (by omega)) ?_
            have e13 : Evl.Ex H0 (upd H12 L (.lst ((v :: xr).set j wv))) := Evl.Ex.mut e12 hL0
            have hL13 : upd H12 L (.lst ((v :: xr).set j wv)) L = some (.lst ((v :: xr).set j wv)) := upd_same
            have x13 : Evl.Ex (hid L (hid b H12)) (upd H12 L (.lst ((v :: xr).set j wv))) := fun a o h => by
              have h1 := hid_ne h
              rw [upd_ne h1]
              exact hid_get (hid_get h)
            have hdw13 := Dp.mono x13 hdw11
            generalize upd H12 L (HO.lst _) = H13 at e13 hL13 x13 hdw13 ⊢
            refine r_next ?_
            walk_at "rd"
            refine ⟨L, _, rfl, .inl ⟨SqL.of hL13, fun p hp => ?_⟩⟩
            have e14 := Evl.Ex.new (o := .tup ((v :: xr).set j wv)) hp
            walk_at "rd"
            refine ⟨by show 2 ≤ sizeLine; decide, fun pd hpd => ?_⟩
            have e15 := Evl.Ex.new (o := .tup [.bl false, .bl false]) hpd
            refine r_next ?_
            have hset : ((v :: xr).map datV).set j dw = ((v :: xr).map datV).set j dw := rfl
            have hdp := (dpAll_set (j := j) (dpAll_sc (K := K) (H := H13) hsc) hdw13)
            have hjl : j < ((v :: xr).map datV).length := by rw [hlm]; omega
            have hbad : (((v :: xr).map datV).set j dw).all isCallD = false := by
              rw [List.all_eq_false]
              exact ⟨dw, List.mem_iff_getElem.mpr ⟨j, by rw [List.length_set]; exact hjl, by rw [List.getElem_set_self]⟩, by rw [hdwc]; exact Bool.false_ne_true⟩
            have hfs : fitAll (((v :: xr).map datV).set j dw) = true := fitAll_of fun d hd => by
              rcases List.mem_or_eq_of_mem_set hd with h | h
              · exact (hfi d h).1
              · rw [h]; exact hdwf
            refine htail _ L p pd _ _ _ _ _ _ _ _ _ _ _ (e15 _ _ (e14 _ _ hL13)) (e15 _ _ upd_same) upd_same (DpAll.mono (e14.trans e15) hdp) hfs (by rw [List.length_set, hlm]; exact hxl9) ?_ ?_ fun σ H' h1 h2 => hend _ _ h1 (((e13.trans e14).trans e15).trans h2)
            · show (_ && (((v :: xr).map datV).set j dw).all isCallD) = _
              rw [hbad, Bool.and_false]
            · show (_ && (((v :: xr).map datV).set j dw).all isCallD) = _
              rw [hbad, Bool.and_false]
    · rintro σ H' ⟨⟨w1, w2, w3, w4, w5, w6, w7, w8, w9, rfl⟩, e⟩
      walk_at "rd"
      exact k _
end
end WP

set_option Elab.async false
set_option linter.all false
set_option maxRecDepth 100000
set_option maxHeartbeats 4000000
namespace WP
open PySem PySem.Spec PyProof.Rows L2
local macro_rules | `(tactic| walk_at "rd") => `(tactic| repeat (first
  | with_reducible refine r_seq ?_ | with_reducible refine r_callW ?_ | with_reducible refine r_tru ?_ | with_reducible refine r_var rfl ?_ | with_reducible refine r_c ?_ | with_reducible refine r_op ?_ | with_reducible refine r_cons ?_ | with_reducible refine r_nil ?_
  | with_reducible refine r_cb ?_ | with_reducible refine r_call ?_ | with_reducible refine r_test ?_ | with_reducible refine r_B ?_ | with_reducible refine r_bl ?_ | with_reducible refine r_asg ?_ | with_reducible refine r_asgS ?_
  | with_reducible refine r_ret ?_ | with_reducible refine r_drop ?_ | with_reducible refine r_ifS ?_ | with_reducible refine r_if ?_ | with_reducible refine r_and ?_ | with_reducible refine r_or ?_ | with_reducible refine r_not ?_
  | with_reducible refine r_andV ?_ | with_reducible refine r_orV ?_ | with_reducible refine r_notV ?_ | with_reducible refine r_chain ?_ | with_reducible refine r_sl ?_ | with_reducible refine r_nopart ?_ | with_reducible refine r_part ?_
  | with_reducible refine r_intO ?_ | with_reducible refine r_two ?_ | with_reducible refine r_m1 ?_ | with_reducible refine r_bm ?_ | with_reducible refine r_next ?_ | with_reducible refine r_gCons ?_ | with_reducible refine r_gNil ?_ | with_reducible refine r_asgT ?_ | with_reducible refine r_for ?_ | with_reducible refine r_rng1 ?_ | with_reducible refine r_iList ?_ | with_reducible refine r_iAny ?_ | with_reducible refine r_lc ?_ | with_reducible refine r_yes ?_ | with_reducible refine r_gN ?_ | with_reducible refine r_par ?_ | with_reducible refine r_un ?_ | with_reducible refine r_brk ?_ | with_reducible refine r_cont ?_
  | with_reducible refine r_I0 ?_ | with_reducible refine r_U ?_ | with_reducible refine r_addI ?_ | with_reducible refine r_abs ?_ | with_reducible refine r_intI ?_ | with_reducible refine r_max2 ?_ | with_reducible refine r_min2 ?_
  | with_reducible refine r_ltI ?_ | with_reducible refine r_leI ?_ | with_reducible refine r_gtI ?_ | with_reducible refine r_geI ?_ | with_reducible refine r_isN_non ?_ | with_reducible refine r_isN_int ?_ | with_reducible refine r_isN_str ?_ | with_reducible refine r_isN_bl ?_ | with_reducible refine r_isN_ref ?_ | with_reducible refine r_isN ?_ | with_reducible refine r_isB ?_ | with_reducible refine r_isnotN_non ?_ | with_reducible refine r_isnotN_int ?_ | with_reducible refine r_isnotN_str ?_ | with_reducible refine r_isnotN_bl ?_ | with_reducible refine r_isnotN_ref ?_ | with_reducible refine r_isnotN ?_ | with_reducible refine r_isnotB ?_
  | with_reducible refine r_inS ?_ | with_reducible refine r_eqS rfl ?_ | with_reducible refine r_neS rfl ?_ | with_reducible refine r_lst ?_ | with_reducible refine r_tup ?_ | with_reducible refine iteT ?_ | with_reducible refine iteF ?_))
local macro_rules | `(tactic| walk_at "isi") => `(tactic| (first
  | with_reducible refine r_isi_non_int ?_
  | with_reducible refine r_isi_non_str ?_
  | with_reducible refine r_isi_non_list ?_
  | with_reducible refine r_isi_non_tuple ?_
  | with_reducible refine r_isi_non_bool ?_
  | with_reducible refine r_isi_bl_int ?_
  | with_reducible refine r_isi_bl_str ?_
  | with_reducible refine r_isi_bl_list ?_
  | with_reducible refine r_isi_bl_tuple ?_
  | with_reducible refine r_isi_bl_bool ?_
  | with_reducible refine r_isi_int_int ?_
  | with_reducible refine r_isi_int_str ?_
  | with_reducible refine r_isi_int_list ?_
  | with_reducible refine r_isi_int_tuple ?_
  | with_reducible refine r_isi_int_bool ?_
  | with_reducible refine r_isi_str_int ?_
  | with_reducible refine r_isi_str_str ?_
  | with_reducible refine r_isi_str_list ?_
  | with_reducible refine r_isi_str_tuple ?_
  | with_reducible refine r_isi_str_bool ?_
  | with_reducible refine r_isi_lst_int (SqL.of (by assumption)) ?_
  | with_reducible refine r_isi_lst_str (SqL.of (by assumption)) ?_
  | with_reducible refine r_isi_lst_list (SqL.of (by assumption)) ?_
  | with_reducible refine r_isi_lst_tuple (SqL.of (by assumption)) ?_
  | with_reducible refine r_isi_lst_bool (SqL.of (by assumption)) ?_
  | with_reducible refine r_isi_tup_int (SqT.of (by assumption)) ?_
  | with_reducible refine r_isi_tup_str (SqT.of (by assumption)) ?_
  | with_reducible refine r_isi_tup_list (SqT.of (by assumption)) ?_
  | with_reducible refine r_isi_tup_tuple (SqT.of (by assumption)) ?_
  | with_reducible refine r_isi_tup_bool (SqT.of (by assumption)) ?_))
local macro_rules | `(tactic| walk_at "rs") => `(tactic| (first
  | ((with_reducible refine iteTc ?hc ?_); (case hc => rfl)) | ((with_reducible refine iteFc ?hc ?_); (case hc => rfl))
  | walk_at "isi"
  | refine r_ixL (SqL.of (by assumption)) rfl ?_ | refine r_ixL (SqL.of upd_same) rfl ?_
  | refine r_I (C := fun _ j => 0 < j) (by first | decide | assumption | omega) ?_
  | refine r_mulI (.inl ⟨by decide, by decide⟩) ?_ | refine r_mulI (.inr ⟨by decide, by decide⟩) ?_ | refine r_mulI (.inr ⟨by omega, by omega⟩) ?_ | refine r_mulI (.inl ⟨by omega, by omega⟩) ?_
  | refine r_I (wide_div (b := 64) (by decide) (by decide) (by decide) (by decide)) ?_
  | refine r_I (C := CPow) ⟨by decide, by decide, by decide⟩ ?_
  | refine r_setL (by assumption) rfl ?_ | refine r_setL upd_same rfl ?_))
local macro_rules | `(tactic| walk_at "rx") => `(tactic| (walk_at "rd"; (repeat (walk_at "rs"; walk_at "rd"))))

def steps : Nat := 900
def ex (K : PySem.W.Frag) : Bool := He.tupB K "KEYWORDS" (kwS.map He.Dv.str)
def d_is_word : He.DefD := ⟨("is_word", none), "is_word", "is_word", defArgs s_is_word, defBody s_is_word, defScope s_is_word, [(.int 30)], []⟩
def d_is_name : He.DefD := ⟨("is_name", none), "is_name", "is_name", defArgs s_is_name, defBody s_is_name, defScope s_is_name, [], []⟩
def d_is_number_text : He.DefD := ⟨("is_number_text", none), "is_number_text", "is_number_text", defArgs s_is_number_text, defBody s_is_number_text, defScope s_is_number_text, [], []⟩
def d_is_constant_text : He.DefD := ⟨("is_constant_text", none), "is_constant_text", "is_constant_text", defArgs s_is_constant_text, defBody s_is_constant_text, defScope s_is_constant_text, [], []⟩
def d_is_call : He.DefD := ⟨("is_call", none), "is_call", "is_call", defArgs s_is_call, defBody s_is_call, defScope s_is_call, [], []⟩
def d_is_path : He.DefD := ⟨("is_path", none), "is_path", "is_path", defArgs s_is_path, defBody s_is_path, defScope s_is_path, [], [("ageing", .bl false)]⟩
def d_law_take : He.DefD := ⟨("_law_take", none), "_law_take", "_law_take", defArgs s_law_take, defBody s_law_take, defScope s_law_take, [], []⟩
def d_law_of : He.DefD := ⟨("_law_of", none), "_law_of", "_law_of", defArgs s_law_of, defBody s_law_of, defScope s_law_of, [], []⟩
def d_law_word : He.DefD := ⟨("_law_word", none), "_law_word", "_law_word", defArgs s_law_word, defBody s_law_word, defScope s_law_word, [], []⟩
def d_law_number : He.DefD := ⟨("_law_number", none), "_law_number", "_law_number", defArgs s_law_number, defBody s_law_number, defScope s_law_number, [], []⟩
def d_law_bag : He.DefD := ⟨("_law_bag", none), "_law_bag", "_law_bag", defArgs s_law_bag, defBody s_law_bag, defScope s_law_bag, [], []⟩
def d_law_any_constant : He.DefD := ⟨("_law_any_constant", none), "_law_any_constant", "_law_any_constant", defArgs s_law_any_constant, defBody s_law_any_constant, defScope s_law_any_constant, [], []⟩
def d_law_written : He.DefD := ⟨("_law_written", none), "_law_written", "_law_written", defArgs s_law_written, defBody s_law_written, defScope s_law_written, [], []⟩
def d_law_call_text : He.DefD := ⟨("_law_call_text", none), "_law_call_text", "_law_call_text", defArgs s_law_call_text, defBody s_law_call_text, defScope s_law_call_text, [], []⟩
def d_law_keywords : He.DefD := ⟨("_law_keywords", none), "_law_keywords", "_law_keywords", defArgs s_law_keywords, defBody s_law_keywords, defScope s_law_keywords, [], []⟩
def d_law_any_name : He.DefD := ⟨("_law_any_name", none), "_law_any_name", "_law_any_name", defArgs s_law_any_name, defBody s_law_any_name, defScope s_law_any_name, [], []⟩
def d_law_any_call : He.DefD := ⟨("_law_any_call", none), "_law_any_call", "_law_any_call", defArgs s_law_any_call, defBody s_law_any_call, defScope s_law_any_call, [], []⟩
def d_law : He.DefD := ⟨("law", none), "law", "law", defArgs s_law, defBody s_law, defScope s_law, [], []⟩
def fn : List He.DefD := [d_is_word, d_is_name, d_is_number_text, d_is_constant_text, d_is_call, d_is_path, d_law_take, d_law_of, d_law_word, d_law_number, d_law_bag, d_law_any_constant, d_law_written, d_law_call_text, d_law_keywords, d_law_any_name, d_law_any_call, d_law]
def fa0 : List He.Fa := [.glo "is_word", .glo "is_name", .glo "is_number_text", .glo "is_constant_text", .glo "is_call", .glo "is_path", .glo "_law_take", .glo "_law_of", .glo "_law_word", .glo "_law_number", .glo "_law_bag", .glo "_law_any_constant", .glo "_law_written", .glo "_law_call_text", .glo "_law_keywords", .glo "_law_any_name", .glo "_law_any_call", .glo "law", .str "SMALL" "abcdefghijklmnopqrstuvwxyz", .str "DIGITS" "0123456789", .glo "KEYWORDS"]
def fa : List He.Fa := blFa ++ fa0
def loose : List PySem.Str := ["SMALL", "is_word", "DIGITS", "KEYWORDS", "is_name", "is_number_text", "is_constant_text", "is_call", "is_path", "_law_bag", "_law_take", "_law_of", "_law_number", "_law_word", "_law_any_constant", "_law_written", "_law_call_text", "_law_keywords", "_law_any_name", "_law_any_call"]
abbrev R : PySem.W.OpenRow := PySem.W.OpenLaw.row PySem.Challenge.rw_whatpasses_k10_paths_known
abbrev hk : PySem.W.Hook := hookE 5 fa fn ex
def ob (s : PySem.W.SharedT) : He.AlD × Bool := obsE 5 fa fn ex (HandSHeadRun.getT s)
theorem ob_eq (s : PySem.W.SharedT) : ob s = hk.obs s.abs := obsE_eq (HandSHeadRun.getT_eq s)
theorem run (w : World) : HandSHeadRun.RunEq R (PySem.W.view R.prog [23]) hk ob steps loose w := by
  intro os
  kernel_rfl
theorem facts {P : Program} {w : World} {K : PySem.W.Frag} {h : Heap} {mg : Str → Option Value} {f : Addr} (X : K.In h) (G : h.Ns mainGlobals mg) (hfa : mg ("law" : Str) = some (.ref f)) (c : He.SaysD fa fn K) (hex : ex K = true) :
    ∃ fd : FuncData, (∀ (s : Shared) (v : Value), BindsTo s fd ⟨[v], []⟩ [("_law_script", v)]) ∧ ∀ base : Heap, K.In base → base.Ns mainGlobals mg → FnOk P w K mg base L2.CX0 7 f fd ["_law_script"] (spLaw K) := by
  have B : Bl mg := bl_of X G c
  obtain ⟨fd, F⟩ := c.def_ 17 (d := d_law) rfl
  have e := hfa.symm.trans (He.glo_ok X G (c.fact 34 (f := .glo "law") rfl))
  cases e
  have b := FunD.bindsA (ps := ["_law_script"]) F fun _ _ _ _ _ _ us hl => match us, hl with | [_], _ => rfl
  refine ⟨fd, fun s v => b s [v] rfl, fun base _ _ => ?_⟩
  have g_KEYWORDS : ∃ u, mg "KEYWORDS" = some u ∧ RelV (.ref (He.ga K "KEYWORDS")) u := ⟨_, He.glo_ok X G (c.fact 37 (f := .glo "KEYWORDS") rfl), rfl⟩
  have hK : ∀ H, SqT K H (He.ga K "KEYWORDS") (kwS.map V.str) := fun H => by
    have := He.tupB_ok hex H
    rw [List.map_map] at this
    exact this
  have take := c_take (P := P) (w := w) (base := base) (at_of X G c 6 23) B
  have of_ := c_of (P := P) (w := w) (base := base) (at_of X G c 7 24) B take
  have word := c_word (P := P) (w := w) (base := base) (at_of X G c 8 25) B take of_
  have num := c_number (P := P) (w := w) (base := base) (at_of X G c 9 26) B take of_
  have isw := c_is_word_2 (P := P) (w := w) (base := base) (atD_of X G c 0 17) B (gs_of X G c 35)
  have isn := c_is_name_ (P := P) (w := w) (base := base) (at_of X G c 1 18) B isw g_KEYWORDS hK
  have isct := c_is_constant_text_ (P := P) (w := w) (base := base) (at_of X G c 3 20) B isw (c_is_number_text_ (at_of X G c 2 19) B (gs_of X G c 36))
  have con := c_any_constant (P := P) (w := w) (base := base) (at_of X G c 11 28) B take of_ word num
  have wri0 : Cal P w K mg base 1 "_law_written" (fun _ _ _ _ => False) := cal_of (at_of X G c 12 29) sc_law_written (fun vs H Q E h => h.elim) (fun _ _ _ _ _ _ us hl => match us, hl with | [_], _ => rfl) (fun f cdv A outer s H vs Q E hr h => h.elim)
  have wri := c_written_ (P := P) (w := w) (base := base) (at_of X G c 12 29) B wri0
  have kws := c_keywords (P := P) (w := w) (base := base) (at_of X G c 14 31) B
  have nam := c_any_name (P := P) (w := w) (base := base) (at_of X G c 15 32) B take of_ kws
  have isc := c_is_call_ (P := P) (w := w) (base := base) (at_of X G c 4 21) B isn isct
  exact c_law F B take of_ (c_any_call (at_of X G c 16 33) B take con nam (c_call_text_ (at_of X G c 13 30) B wri)) (c_bag (at_of X G c 10 27) B) (c_is_path_1_ (atD_of X G c 5 22) B isc) (c_is_path_1k1_ (atD_of X G c 5 22) B isc) (c_is_path_0k2_ (atD_of X G c 5 22) B isc)
end WP
open PySem PySem.W PySem.Calls PyProof.Rows
set_option maxRecDepth 100000 in
set_option maxHeartbeats 0 in
theorem PySem.Challenge.cw_whatpasses_k10_paths_known_holds : PySem.Challenge.rw_whatpasses_k10_paths_known.Holds := by
  w_on; o_law
  refine HandSHeadRun.head_any (r := OpenLaw.row PySem.Challenge.rw_whatpasses_k10_paths_known) (q := view (OpenLaw.row PySem.Challenge.rw_whatpasses_k10_paths_known).prog [23]) (H := WP.hk) (ob := WP.ob) (M := WP.steps) (loose := WP.loose) (d := HandSHeadRun.topDef (OpenLaw.row PySem.Challenge.rw_whatpasses_k10_paths_known).prog 23) (kwd := []) WP.ob_eq
    (by kernel_rfl) (fun s => by kernel_rfl) WP.run (by kernel_rfl) (by kernel_rfl) (by kernel_rfl) (by rfl) (by first | assumption | decide +kernel) (by decide +kernel) ⟨rfl, rfl, rfl, rfl, rfl, by decide +kernel⟩ ?hw ?hc
  case hw => w_witness2
  case hc =>
    refine L2.walk_ofE (l := PySem.Challenge.rw_whatpasses_k10_paths_known) (n := 63) (k := 7) (x := "_law_script") (CX := L2.CX0) rfl (by decide) (by kernel_rfl) ⟨rfl, by decide, by decide⟩ ?F (fun _ _ _ _ z => z)
    intro w mg fa h Y G hmg0
    obtain ⟨K, KX, c, hex⟩ := Y
    have hmg : mg ("law" : PySem.Str) = some (.ref fa) := by
      have e : (HandSHeadRun.topDef (OpenLaw.row PySem.Challenge.rw_whatpasses_k10_paths_known).prog 23).name = ("law" : PySem.Str) := by kernel_rfl
      rw [← e]
      exact hmg0
    obtain ⟨fd, hb, hF⟩ := WP.facts (P := (PySem.Challenge.rw_whatpasses_k10_paths_known).prog) (w := w) KX G hmg c hex
    exact ⟨K, fd, WP.spLaw K, KX, hb, fun H a ns hl _ hS => ⟨a, ns, rfl, hS, hl, fun _ => rfl⟩, hF⟩
#print axioms PySem.Challenge.cw_whatpasses_k10_paths_known_holds

