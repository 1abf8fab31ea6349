import PyProof.Rows.All
import Wide.All
import OpenK.AllK
import Wide.FinOn
import HandS.ForMost
import HandS.Wide
import HandS.WideBits
import HandS.Flow
import HandS.Style
import HandS.IsInst
import HandS.Codes
import HandS.Evl
import HandS.TupAny
import HandS.Walk
import HandS.Defaults
import HandS.WordsExc
import HandS.Head0
import HandS.Head1
import HandS.Head2
import HandS.HeadEnd
import HandS.HeadHook1
import HandS.HeadHook2
import PySem.Challenge.RW_whatpasses_k05_items_and_answers
set_option Elab.async false
set_option linter.all false
set_option maxRecDepth 100000
set_option maxHeartbeats 4000000
namespace WP
open PySem PySem.Spec PyProof.Rows L2

/-! ### rules that take what comes -/
def rAddA (K : PySem.W.Frag) : R2 := fun x y H Q => (∃ i j, x = .int i ∧ y = .int j ∧ Q (.int (i + j)) H) ∨ (∃ i j, x = .str i ∧ y = .str j ∧ i.length + j.length ≤ sizeLine ∧ Q (.str (i ++ j)) H) ∨ rCat x y H Q ∨ rCatT K x y H Q
def rMulA : R2 := fun x y H Q => (∃ i j, x = .int i ∧ y = .int j ∧ CMul i j ∧ Q (.int (i * j)) H) ∨ rRep x y H Q ∨ ∃ z n, x = .str z ∧ y = .int n ∧ MulOk z n ∧ Q (.str (Txt.mul z n)) H
def rLenA (K : PySem.W.Frag) : List V → Hp → VK → Prop := fun xs H Q => ∃ x n, xs = [x] ∧ LenV K x H n ∧ Q (.int (n : Nat)) H
def rAbsA : List V → Hp → VK → Prop := fun xs H Q => ∃ i, xs = [.int i] ∧ Q (.int (if i < 0 then -i else i)) H
def rIntA : List V → Hp → VK → Prop := fun xs H Q => (∃ i, xs = [.int i] ∧ Q (.int i) H) ∨ ∃ k, xs = [.bl k] ∧ Q (.int (if k then 1 else 0)) H
def rMax2A : List V → Hp → VK → Prop := fun xs H Q => ∃ i j, xs = [.int i, .int j] ∧ Q (.int (if j > i then j else i)) H
def rMin2A : List V → Hp → VK → Prop := fun xs H Q => ∃ i j, xs = [.int i, .int j] ∧ Q (.int (if j < i then j else i)) H
def rEqA (K : PySem.W.Frag) : R2 := fun x y H Q => rEq x y H Q ∨ rEqD K x y H Q
def rNeA (K : PySem.W.Frag) : R2 := fun x y H Q => rNe x y H Q ∨ rNeD K x y H Q
def rLtA : R2 := fun x y H Q => (∃ i j, x = .int i ∧ y = .int j ∧ Q (.bl (decide (i < j))) H) ∨ ∃ i j, x = .str i ∧ y = .str j ∧ Q (.bl (decide (i.cps.toList < j.cps.toList))) H
def rLeA : R2 := fun x y H Q => ∃ i j, x = .int i ∧ y = .int j ∧ Q (.bl (decide (i ≤ j))) H
def rGtA : R2 := fun x y H Q => ∃ i j, x = .int i ∧ y = .int j ∧ Q (.bl (decide (j < i))) H
def rGeA : R2 := fun x y H Q => ∃ i j, x = .int i ∧ y = .int j ∧ Q (.bl (decide (j ≤ i))) H
def rIsA : R2 := fun x y H Q => (y = .non ∧ Q (.bl (decide (x = .non))) H) ∨ ∃ a b : Bool, x = .bl a ∧ y = .bl b ∧ Q (.bl (decide (a = b))) H
def rIsNotA : R2 := fun x y H Q => (y = .non ∧ Q (.bl (!decide (x = .non))) H) ∨ ∃ a b : Bool, x = .bl a ∧ y = .bl b ∧ Q (.bl (!decide (a = b))) H
def rInA (K : PySem.W.Frag) : R2 := fun x y H Q => (∃ (c : Nat) (z : Str), x = .str ⟨#[c]⟩ ∧ y = .str z ∧ Q (.bl (decide (c ∈ z.cps.toList))) H) ∨ rIn K false x y H Q
def rNotInA (K : PySem.W.Frag) : R2 := fun x y H Q => (∃ (c : Nat) (z : Str), x = .str ⟨#[c]⟩ ∧ y = .str z ∧ Q (.bl (!decide (c ∈ z.cps.toList))) H) ∨ rIn K true x y H Q
def rSlA3 (K : PySem.W.Frag) : V → Option Int → Option Int → Hp → VK → Prop := fun x lo hi H Q => rSlS x lo hi H Q ∨ rSlL K x lo hi H Q
section
variable {X : Cx}
theorem op_addA (K : PySem.W.Frag) (h : X.K = K := by rfl) : OpR X (binaryOp .Add) (rAddA K) := by subst h; exact op_add.or (op_add_str.or (op_cat.or op_catT))
theorem op_mulStr : OpR X (binaryOp .Mult) (fun x y H Q => ∃ z n, x = .str z ∧ y = .int n ∧ MulOk z n ∧ Q (.str (Txt.mul z n)) H) := by
  rintro pins s σ H x y v u Q I rx ry ⟨z, n, rfl, rfl, hok, q⟩
  obtain ⟨t, rfl⟩ := rx
  obtain ⟨t', rfl⟩ := ry
  exact SB.mul hok fun _ _ => ⟨.str (Txt.mul z n), H, I.tok _, ⟨_, rfl⟩, q⟩
theorem op_mulA : OpR X (binaryOp .Mult) rMulA := op_mul.or (op_rep.or op_mulStr)
theorem call_lenA (K : PySem.W.Frag) (h : X.K = K := by rfl) : CallR X (.builtin "len") (rLenA K) := by subst h; exact call_len
theorem call_absA : CallR X (.builtin "abs") rAbsA := call_abs
theorem call_intA : CallR X (.type "int") rIntA := call_int1
theorem call_max2A (hc : X.calm = true) : CallR X (.builtin "max") rMax2A := call_max2 hc
theorem call_min2A (hc : X.calm = true) : CallR X (.builtin "min") rMin2A := call_min2 hc
theorem call_isinstanceA (K : PySem.W.Frag) (h : X.K = K := by rfl) : CallR X (.builtin "isinstance") (rIsi K) := by subst h; exact call_isi
theorem call_isinstanceTA (K : PySem.W.Frag) (h : X.K = K := by rfl) : CallR X (.builtin "isinstance") (rIsiT K) := by subst h; exact call_isiT
theorem call_allA (K : PySem.W.Frag) (hc : X.calm = true) (h : X.K = K := by rfl) : CallR X (.builtin "all") (rAll K) := by subst h; exact cr_all hc
theorem call_anyA (K : PySem.W.Frag) (hc : X.calm = true) (h : X.K = K := by rfl) : CallR X (.builtin "any") (rAny K) := by subst h; exact cr_any hc
theorem op_eqA (K : PySem.W.Frag) (hu : X.A.units + 64 < cLine) (h : X.K = K := by rfl) : OpR X (compareOp .Eq) (rEqA K) := by subst h; exact op_eq.or (op_eqD hu)
theorem op_neA (K : PySem.W.Frag) (hu : X.A.units + 64 < cLine) (h : X.K = K := by rfl) : OpR X (compareOp .NotEq) (rNeA K) := by subst h; exact op_ne.or (op_neD hu)
def rTupleA (K : PySem.W.Frag) : List V → Hp → VK → Prop := fun xs H Q => ∃ p ys, xs = [.ref p] ∧ ((SqL K H p ys ∧ ∀ l, H l = none → Q (.ref l) (upd H l (.tup ys))) ∨ (SqT K H p ys ∧ Q (.ref p) H))
def rListA (K : PySem.W.Frag) : List V → Hp → VK → Prop := fun xs H Q => ∃ p ys, xs = [.ref p] ∧ (SqL K H p ys ∨ SqT K H p ys) ∧ ∀ l, H l = none → Q (.ref l) (upd H l (.lst ys))
theorem call_tupleA (K : PySem.W.Frag) (h : X.K = K := by rfl) : CallR X (.type "tuple") (rTupleA K) := by subst h; exact call_tuple_of
theorem call_listA (K : PySem.W.Frag) (h : X.K = K := by rfl) : CallR X (.type "list") (rListA K) := by subst h; exact call_list_of
theorem op_ltA : OpR X (compareOp .Lt) rLtA := op_lt.or op_lt_str
theorem op_leA : OpR X (compareOp .LtE) rLeA := op_le
theorem op_gtA : OpR X (compareOp .Gt) rGtA := op_gt
theorem op_geA : OpR X (compareOp .GtE) rGeA := op_ge
theorem op_isA : OpR X (compareOp .Is) rIsA := op_isN.or op_isBl
theorem op_isnotA : OpR X (compareOp .IsNot) rIsNotA := op_notN.or op_notBl
theorem op_inA (K : PySem.W.Frag) (h : X.K = K := by rfl) : OpR X (compareOp .In) (rInA K) := by subst h; exact op_in_sign.or op_in_seq
theorem op_notInA (K : PySem.W.Frag) (h : X.K = K := by rfl) : OpR X (compareOp .NotIn) (rNotInA K) := by subst h; exact op_notIn_sign.or op_notIn_seq
theorem sl_A (K : PySem.W.Frag) (h : X.K = K := by rfl) : SlR X (rSlA3 K) := by subst h; exact sl_str.or sl_list
theorem ix_A (K : PySem.W.Frag) (h : X.K = K := by rfl) : IxR X (rIx K) := by subst h; exact ix_seq
def rJoinA (K : PySem.W.Frag) : V → List V → Hp → VK → Prop := fun x xs H Q => ∃ a p, ∃ ys : List Str, x = .str a ∧ xs = [.ref p] ∧ (SqL K H p (ys.map V.str) ∨ SqT K H p (ys.map V.str)) ∧ (ys.map (·.length)).sum + ys.length * a.length ≤ 16777216 ∧ Q (.str (Txt.join a ys)) H
theorem pe_joinA (K : PySem.W.Frag) {o e : Expr} {to te : TE} {apos pos : Pos} (ho : PE X o to) (he : PE X e te) (h : X.K = K := by rfl) (hs : starEach [e] X.env = [(false, eval e X.env)] := by rfl) (hbase : attributeBase o "join" X.env (eval o X.env) = eval o X.env := by rfl) (hline : (apos.endLine == pos.line) = true := by rfl) :
    PE X (.Call (.Attribute o "join" apos) [e] [] pos) (tM1 (rJoinA K) to te) := by subst h; exact pe_join ho he hs hbase hline
theorem pe_appendA (K : PySem.W.Frag) {o e : Expr} {to te : TE} {apos pos : Pos} (hb : PE X (.Call (.Attribute o "append" apos) [e] [] pos) (tBM X.K "list" rAppend to (tCons te tNil))) (h : X.K = K := by rfl) :
    PE X (.Call (.Attribute o "append" apos) [e] [] pos) (tBM K "list" rAppend to (tCons te tNil)) := by subst h; exact hb
end

/-! ### what is walked: a list, a tuple, a text -/
def iAny (K : PySem.W.Frag) (te : TE) : TI := fun σ H R => te σ H fun x H1 => (∃ a, x = .ref a ∧ (∃ xs, SqL K H1 a xs) ∧ R (Itl K a) H1) ∨ (∃ a, x = .ref a ∧ (∃ xs, SqT K H1 a xs) ∧ R (Itt K a) H1) ∨ (∃ z, x = .str z ∧ R (Its z) H1)
theorem pi_any {X : Cx} (K : PySem.W.Frag) {tg e : Expr} {te : TE} (he : PE X e te) (h : X.K = K := by rfl) : PI X tg e (iAny K te) := by
  subst h
  constructor
  intro pins s σ H R I h
  refine thn (he.run pins s σ H _ I h) ?_
  rintro v s1 ⟨x, H1, I1, r1, ⟨a, rfl, ⟨xs, hq⟩, q⟩ | ⟨a, rfl, ⟨xs, hq⟩, q⟩ | ⟨z, rfl, q⟩⟩
  · cases r1
    obtain ⟨its, rv, p, hz⟩ := I1.list hq
    refine wpAny_pyIter_list p.isList ⟨s1.heap.objs.size, [s1.heap.objs.size], _, _, H1, rfl, ?_, turn_list a _, ⟨_, Heap.get?_push_size _ rfl, rfl, rfl⟩, fun b hb => ?_, q⟩
    · exact I1.kept (t' := s1.toks) fun b o e => Heap.get?_push_of_some _ e
    · rw [List.mem_singleton.mp hb]
      exact I1.fpOk (Nat.le_refl _) (I1.hok.fresh (Nat.le_refl _))
  · cases r1
    obtain ⟨its, rv, p, hz⟩ := I1.tuple hq
    have p2 : s1.heap.IsTuple a its.toArray := p
    refine wpAny_pyIter_tuple p2 ⟨s1.heap.objs.size, [s1.heap.objs.size], _, _, H1, rfl, ?_, turn_tuple a _, ⟨_, Heap.get?_push_size _ rfl, rfl, rfl⟩, fun b hb => ?_, q⟩
    · exact I1.kept (t' := s1.toks) fun b o e => Heap.get?_push_of_some _ e
    · rw [List.mem_singleton.mp hb]
      exact I1.fpOk (Nat.le_refl _) (I1.hok.fresh (Nat.le_refl _))
  · obtain ⟨t, rfl⟩ := r1
    by_cases ha : z.cps.all (· < 128) = true
    · exact wpAny_pyIter_ascii ha (pi_one (tk := s1.toks) I1 _ (turn_str _ z t _ (.inl rfl)) ⟨_, Heap.get?_push_size _ rfl, rfl, rfl⟩ q)
    · exact wpAny_pyIter_wide (by simpa using ha) (pi_one (tk := s1.toks) I1 _ (turn_str _ z t _ (.inr rfl)) ⟨_, Heap.get?_push_size _ rfl, rfl, rfl⟩ q)

/-! ### a def that may be called by its name -/
structure Cal (P : Program) (w : World) (K : PySem.W.Frag) (mg : Str → Option Value) (base : Heap) (k : Nat) (x : Str) (sp : Sp) : Prop where
  ex : ∃ (f : Addr) (fd : FuncData) (ps : List Str), FnOk P w K mg base L2.CX0 k f fd ps sp ∧ mg x = some (.ref f) ∧ PySem.W.keepIn K (.ref f) = true ∧ Binds K fd ps []
section
variable {X : Cx} {k j : Nat} {x : Str} {sp : Sp} {p pos : Pos} {e : Expr} {es : List Expr} {t : TA}
theorem pe_cA (c : Cal X.prog X.w X.K X.mg X.base k x sp) (hr : Room j X.A) (hk : k ≤ j) (hg : Gl X x) (ha : PA X (e :: es) t)
    (hdb : (x == ("__debug__" : Str)) = false := by decide) (he : starEach (e :: es) X.env = (false, eval e X.env) :: starEach es X.env := by rfl) (hpl : (backTo pos (starEach es X.env)).any (·.1) = false := by rfl) :
    PE X (.Call (.Name x p) (e :: es) [] pos) (tCall sp [] L2.E0 t) := by
  obtain ⟨f, fd, ps, F, hm, kp, b⟩ := c.ex
  exact pe_call F (hr.mono hk) hg hm kp b .nil L2.pass0 ha hdb he hpl
end
section
variable {P : Program} {w : World} {K : PySem.W.Frag} {mg : Str → Option Value} {base : Heap}
/-- what the head tells of one def -/
structure At (K : PySem.W.Frag) (mg : Str → Option Value) (x : Str) (st : Stmt) : Prop where
  ex : ∃ (f : Addr) (fd : FuncData), FunD K x x (defArgs st) (defBody st) (defScope st) [] [] f fd ∧ mg x = some (.ref f)
theorem fnok_of {x : Str} {st : Stmt} {f : Addr} {fd : FuncData} {N ps : List Str} {k : Nat} {sp : Sp} (F : FunD K x x (defArgs st) (defBody st) (defScope st) [] [] f fd) (S : FnScope N ps (defScope st)) (len : ∀ vs H Q E, sp vs H Q E → vs.length = ps.length)
    (hbody : ∀ (cdv : Value) (A : Around) (outer : List Env) (s : Shared) (H : Hp) (vs : List V) (Q : VK) (E : XK), Room k (A.deeper (envOfC x (defScope st) s.heap.objs.size f cdv)) → sp vs H Q E →
      ∃ t, PSs (cxOf L2.CX0 P w K mg base N x (defScope st) f cdv A outer s H E).nox (defBody st) t ∧ t { nx := fun _ H' => Q .non H', rt := Q } (start N vs) H) : FnOk P w K mg base L2.CX0 (k + 1) f fd ps sp := by
  refine F.ok S len fun cdv A outer s H vs Q E hr hsp => ?_
  obtain ⟨t, h, q⟩ := hbody cdv A outer s H vs Q E hr hsp
  exact ⟨t, h.nox, q⟩
theorem cal_of {x : Str} {st : Stmt} {N ps : List Str} {k : Nat} {sp : Sp} (F : At K mg x st) (S : FnScope N ps (defScope st)) (len : ∀ vs H Q E, sp vs H Q E → vs.length = ps.length)
    (hb : ∀ (kV doc pm : Value) (an : Option Addr) (cdv ct : Value) (us : List Value), us.length = ps.length → bindArgs (PySem.W.fnOf x x (defArgs st) (defBody st) (defScope st) .none kV doc pm an cdv ct) ⟨us, []⟩ = pure (ps.zip us))
    (hbody : ∀ (f : Addr) (cdv : Value) (A : Around) (outer : List Env) (s : Shared) (H : Hp) (vs : List V) (Q : VK) (E : XK), Room k (A.deeper (envOfC x (defScope st) s.heap.objs.size f cdv)) → sp vs H Q E →
      ∃ t, PSs (cxOf L2.CX0 P w K mg base N x (defScope st) f cdv A outer s H E).nox (defBody st) t ∧ t { nx := fun _ H' => Q .non H', rt := Q } (start N vs) H) : Cal P w K mg base (k + 1) x sp := by
  obtain ⟨f, fd, F, m⟩ := F.ex
  refine ⟨f, fd, ps, F.ok S len fun cdv A outer s H vs Q E hr hsp => ?_, m, F.kp, F.bindsN hb⟩
  obtain ⟨t, h, q⟩ := hbody f cdv A outer s H vs Q E hr hsp
  exact ⟨t, h.nox, q⟩
end

/-! ### defs with defaults -/
structure AtD (K : PySem.W.Frag) (mg : Str → Option Value) (x : Str) (st : Stmt) (dvs : List V) (kws : List (Str × V)) : Prop where
  ex : ∃ (f : Addr) (fd : FuncData), FunD K x x (defArgs st) (defBody st) (defScope st) dvs kws f fd ∧ mg x = some (.ref f)
structure CalD (P : Program) (w : World) (K : PySem.W.Frag) (mg : Str → Option Value) (base : Heap) (k : Nat) (x : Str) (sp : Sp) (dvs : List V) : Prop where
  ex : ∃ (f : Addr) (fd : FuncData) (ps : List Str) (ds : List Value), FnOk P w K mg base L2.CX0 k f fd ps sp ∧ mg x = some (.ref f) ∧ PySem.W.keepIn K (.ref f) = true ∧ Binds K fd ps ds ∧ Vals dvs ds
section
variable {X : Cx} {k j : Nat} {x : Str} {sp : Sp} {dvs : List V} {p pos : Pos} {e : Expr} {es : List Expr} {t : TA}
theorem pe_cD (c : CalD X.prog X.w X.K X.mg X.base k x sp dvs) (hr : Room j X.A) (hk : k ≤ j) (hg : Gl X x) (ha : PA X (e :: es) t)
    (hdb : (x == ("__debug__" : Str)) = false := by decide) (he : starEach (e :: es) X.env = (false, eval e X.env) :: starEach es X.env := by rfl) (hpl : (backTo pos (starEach es X.env)).any (·.1) = false := by rfl) :
    PE X (.Call (.Name x p) (e :: es) [] pos) (tCall sp dvs L2.E0 t) := by
  obtain ⟨f, fd, ps, ds, F, hm, kp, b, hd⟩ := c.ex
  exact pe_call F (hr.mono hk) hg hm kp b hd L2.pass0 ha hdb he hpl
end
section
variable {P : Program} {w : World} {K : PySem.W.Frag} {mg : Str → Option Value} {base : Heap}
theorem calD_of {x : Str} {st : Stmt} {N ps : List Str} {k : Nat} {sp : Sp} {dvs : List V} (F : AtD K mg x st dvs []) (S : FnScope N ps (defScope st)) (len : ∀ vs H Q E, sp vs H Q E → vs.length = ps.length)
    (hbody : ∀ (f : Addr) (cdv : Value) (A : Around) (outer : List Env) (s : Shared) (H : Hp) (vs : List V) (Q : VK) (E : XK), Room k (A.deeper (envOfC x (defScope st) s.heap.objs.size f cdv)) → sp vs H Q E →
      ∃ t, PSs (cxOf L2.CX0 P w K mg base N x (defScope st) f cdv A outer s H E).nox (defBody st) t ∧ t { nx := fun _ H' => Q .non H', rt := Q } (start N vs) H) (n j : Nat) (hd : dvs ≠ []) (hn : n + (dvs.length - j) = ps.length)
    (hb : ∀ (T : Addr) (kV doc pm : Value) (an : Option Addr) (cdv ct : Value) (us its : List Value), us.length = n → its.length = dvs.length →
      ∃ k, bindArgs (PySem.W.fnOf x x (defArgs st) (defBody st) (defScope st) (.ref T) kV doc pm an cdv ct) ⟨us, []⟩ = seqItems? (.ref T) >>= k ∧ k (some its.toArray) = pure (ps.zip (us ++ its.drop j))) : CalD P w K mg base (k + 1) x sp (dvs.drop j) := by
  obtain ⟨f, fd, F, m⟩ := F.ex
  obtain ⟨ds, hv, b⟩ := F.binds1 n j hd hn hb
  refine ⟨f, fd, ps, ds, F.ok S len fun cdv A outer s H vs Q E hr hsp => ?_, m, F.kp, b, hv⟩
  obtain ⟨t, h, q⟩ := hbody f cdv A outer s H vs Q E hr hsp
  exact ⟨t, h.nox, q⟩
end

/-! ### readings, step by step -/
section
variable {K : PySem.W.Frag} {σ : L2.St} {H : Hp} {Q : VK} {QB : Bool → Hp → Prop} {QA : List V → Hp → Prop} {v x y : V} {i j : Nat} {ta tb te tc : TE} {tl : TA} {r r' : R2} {D : Ends} {t u c : TT} {s1 s2 : TS} {a : Addr}
theorem r_var (h : σ[i]? = some (some v)) (q : Q v H) : tVar i σ H Q := ⟨v, h, q⟩
theorem r_c (q : Q v H) : tC v σ H Q := q
theorem r_op (q : ta σ H fun x H1 => tb σ H1 fun y H2 => r x y H2 Q) : tOp r ta tb σ H Q := q
theorem r_un {ru : V → Hp → VK → Prop} (q : ta σ H fun x H1 => ru x H1 Q) : tUn ru ta σ H Q := q
theorem r_nil (q : QA [] H) : tNil σ H QA := q
theorem r_cons (q : te σ H fun x H1 => tl σ H1 fun xs H2 => QA (x :: xs) H2) : tCons te tl σ H QA := q
theorem r_lst (q : tl σ H fun xs H1 => xs.length ≤ sizeLine ∧ ∀ p, H1 p = none → Q (.ref p) (upd H1 p (.lst xs))) : tLst tl σ H Q := q
theorem r_tup (q : tl σ H fun xs H1 => xs.length ≤ sizeLine ∧ ∀ p, H1 p = none → Q (.ref p) (upd H1 p (.tup xs))) : tTup tl σ H Q := q
theorem r_cb {rc : List V → Hp → VK → Prop} (q : tl σ H fun vs H1 => rc vs H1 Q) : tCB rc tl σ H Q := q
theorem r_call {sp : Sp} {dvs : List V} {E : XK} (q : tl σ H fun vs H1 => sp (vs ++ dvs) H1 Q E) : tCall sp dvs E tl σ H Q := q
theorem r_test (q : te σ H fun x H' => ∃ k, x = .bl k ∧ QB k H') : tTest te σ H QB := q
theorem r_B (q : te σ H fun x H' => ∃ k, x = .bl k ∧ QB k H') : tB te σ H QB := q
theorem r_bl {b : Bool} {QC : Bool → Prop} (q : QC b) : ∃ k, V.bl b = .bl k ∧ QC k := ⟨b, rfl, q⟩
theorem r_and (q : t σ H fun c H1 => if c = true then u σ H1 QB else QB false H1) : tAnd t u σ H QB := q
theorem r_or (q : t σ H fun c H1 => if c = true then QB true H1 else u σ H1 QB) : tOr t u σ H QB := q
theorem r_not (q : t σ H fun c H1 => QB (!c) H1) : tNot t σ H QB := q
theorem r_andV (q : ta σ H fun x H1 => ∃ c, x = .bl c ∧ if c = true then tb σ H1 Q else Q (.bl false) H1) : tAndV ta tb σ H Q := q
theorem r_orV (q : ta σ H fun x H1 => ∃ c, x = .bl c ∧ if c = true then Q (.bl true) H1 else tb σ H1 Q) : tOrV ta tb σ H Q := q
theorem r_notV (q : ta σ H fun x H1 => ∃ c, x = .bl c ∧ Q (.bl (!c)) H1) : tNotV ta σ H Q := q
theorem r_if (q : t σ H fun c H1 => if c = true then ta σ H1 Q else tb σ H1 Q) : tIf t ta tb σ H Q := q
theorem r_chain (q : ta σ H fun x H1 => tb σ H1 fun y H2 => r x y H2 fun z H3 => ∃ k, z = .bl k ∧ (if k = true then tc σ H3 fun w' H4 => r' y w' H4 Q else Q (.bl false) H3)) : tChain r r' ta tb tc σ H Q := q
theorem r_sl {rs : V → Option Int → Option Int → Hp → VK → Prop} {tlo thi : TO} (q : te σ H fun x H1 => tlo σ H1 fun l H2 => thi σ H2 fun u H3 => rs x l u H3 Q) : tSl rs te tlo thi σ H Q := q
theorem r_nopart {QO : Option Int → Hp → Prop} (q : QO none H) : tNoPart σ H QO := q
theorem r_part {QO : Option Int → Hp → Prop} (q : te σ H fun x H1 => ∃ i, x = .int i ∧ QO (some i) H1) : tPart te σ H QO := q
theorem r_m1 {rm : V → List V → Hp → VK → Prop} (q : ta σ H fun x H1 => (∃ a, x = .str a) ∧ tb σ H1 fun y H2 => rm x [y] H2 Q) : tM1 rm ta tb σ H Q := q
theorem r_bm {T : String} {rm : V → List V → Hp → VK → Prop} (q : ta σ H fun x H1 => tyV K T x H1 ∧ tl σ H1 fun xs H2 => rm x xs H2 Q) : tBM K T rm ta tl σ H Q := q
theorem r_next (q : D.nx σ H) : tNext D σ H := q
theorem r_seq (q : s1 { D with nx := s2 D } σ H) : tSeq s1 s2 D σ H := q
theorem r_asg (q : te σ H fun x H1 => D.nx (σ.set i (some x)) H1) : tAsg te (gName i) D σ H := q
theorem r_asgS {rs : V → V → V → Hp → (Hp → Prop) → Prop} (q : te σ H fun x H1 => ta σ H1 fun o H2 => tb σ H2 fun ix H3 => rs o ix x H3 fun H4 => D.nx σ H4) : tAsg te (gSub ta tb rs) D σ H := q
theorem r_par (q : tl σ H fun vs H1 => ∃ v w, vs = [v, w] ∧ D.nx ((σ.set i (some v)).set j (some w)) H1) : tPar i j tl D σ H := q
theorem r_ret (q : te σ H D.rt) : tRet te D σ H := q
theorem r_drop (q : te σ H fun _ H1 => D.nx σ H1) : tDrop te D σ H := q
theorem r_ifS (q : c σ H fun b H1 => if b = true then s1 D σ H1 else s2 D σ H1) : tIfS c s1 s2 D σ H := q
theorem r_brk (q : D.bk σ H) : tBreak D σ H := q
theorem r_cont (q : D.ct σ H) : tCont D σ H := q
/-! values -/
theorem r_I0 {g : Int → Int → V} {i j : Int} (q : Q (g i j) H) : rI0 g (.int i) (.int j) H Q := ⟨i, j, rfl, rfl, q⟩
theorem r_I {C : Int → Int → Prop} {g : Int → Int → V} {i j : Int} (c : C i j) (q : Q (g i j) H) : rI C g (.int i) (.int j) H Q := ⟨i, j, rfl, rfl, c, q⟩
theorem r_U {g : Int → V} {i : Int} (q : Q (g i) H) : rU g (.int i) H Q := ⟨i, rfl, q⟩
theorem r_addI {i j : Int} (q : Q (.int (i + j)) H) : rAddA K (.int i) (.int j) H Q := .inl ⟨i, j, rfl, rfl, q⟩
theorem r_addS {i j : Str} (h : i.length + j.length ≤ sizeLine) (q : Q (.str (i ++ j)) H) : rAddA K (.str i) (.str j) H Q := .inr (.inl ⟨i, j, rfl, rfl, h, q⟩)
theorem r_addL {p q : Addr} {xs ys : List V} (h1 : H p = some (.lst xs)) (h2 : H q = some (.lst ys)) (hl : xs.length + ys.length ≤ sizeLine) (k : ∀ l, H l = none → Q (.ref l) (upd H l (.lst (xs ++ ys)))) : rAddA K (.ref p) (.ref q) H Q :=
  .inr (.inr (.inl ⟨p, q, xs, ys, rfl, rfl, h1, h2, hl, k⟩))
theorem r_mulS {z : Str} {n : Int} (c : MulOk z n) (q : Q (.str (Txt.mul z n)) H) : rMulA (.str z) (.int n) H Q := .inr (.inr ⟨z, n, rfl, rfl, c, q⟩)
theorem r_mulL {p : Addr} {n : Int} {xs : List V} (h : H p = some (.lst xs)) (h1 : 0 ≤ n) (h2 : n < 2 ^ 62) (h3 : xs.length * n.toNat ≤ sizeLine) (q : ∀ l, H l = none → Q (.ref l) (upd H l (.lst (List.replicate n.toNat xs).flatten))) : rMulA (.ref p) (.int n) H Q :=
  .inr (.inl ⟨p, n, xs, rfl, rfl, h, by omega, by omega, h3, q⟩)
theorem r_mulI {i j : Int} (c : CMul i j) (q : Q (.int (i * j)) H) : rMulA (.int i) (.int j) H Q := .inl ⟨i, j, rfl, rfl, c, q⟩
theorem r_lenS {z : Str} (h : z.length ≤ sizeLine) (q : Q (.int (z.length : Nat)) H) : rLenA K [.str z] H Q := ⟨_, _, rfl, ⟨h, rfl⟩, q⟩
theorem r_lenL {p : Addr} {xs : List V} (h : SqL K H p xs) (q : Q (.int (xs.length : Nat)) H) : rLenA K [.ref p] H Q := ⟨_, _, rfl, .inl ⟨_, h, rfl⟩, q⟩
theorem r_lenT {p : Addr} {xs : List V} (h : SqT K H p xs) (q : Q (.int (xs.length : Nat)) H) : rLenA K [.ref p] H Q := ⟨_, _, rfl, .inr ⟨_, h, rfl⟩, q⟩
theorem r_abs {i : Int} (q : Q (.int (if i < 0 then -i else i)) H) : rAbsA [.int i] H Q := ⟨i, rfl, q⟩
theorem r_intI {i : Int} (q : Q (.int i) H) : rIntA [.int i] H Q := .inl ⟨i, rfl, q⟩
theorem r_max2 {i j : Int} (q : Q (.int (if j > i then j else i)) H) : rMax2A [.int i, .int j] H Q := ⟨i, j, rfl, q⟩
theorem r_min2 {i j : Int} (q : Q (.int (if j < i then j else i)) H) : rMin2A [.int i, .int j] H Q := ⟨i, j, rfl, q⟩
theorem r_eqS (h : scal x y = true) (q : Q (.bl (decide (x = y))) H) : rEqA K x y H Q := .inl ⟨h, q⟩
theorem r_neS (h : scal x y = true) (q : Q (.bl (!decide (x = y))) H) : rNeA K x y H Q := .inl ⟨h, q⟩
theorem r_eqD {d e : PyData} (h1 : Dp K H x d) (h2 : Dp K H y e) (s1 : SeqAt.shaped d = true) (s2 : SeqAt.shaped e = true) (q : Q (.bl (PyData.eqv d e)) H) : rEqA K x y H Q := .inr ⟨d, e, h1, h2, s1, s2, q⟩
theorem r_neD {d e : PyData} (h1 : Dp K H x d) (h2 : Dp K H y e) (s1 : SeqAt.shaped d = true) (s2 : SeqAt.shaped e = true) (q : Q (.bl (!PyData.eqv d e)) H) : rNeA K x y H Q := .inr ⟨d, e, h1, h2, s1, s2, q⟩
theorem r_ltI {i j : Int} (q : Q (.bl (decide (i < j))) H) : rLtA (.int i) (.int j) H Q := .inl ⟨i, j, rfl, rfl, q⟩
theorem r_leI {i j : Int} (q : Q (.bl (decide (i ≤ j))) H) : rLeA (.int i) (.int j) H Q := ⟨i, j, rfl, rfl, q⟩
theorem r_gtI {i j : Int} (q : Q (.bl (decide (j < i))) H) : rGtA (.int i) (.int j) H Q := ⟨i, j, rfl, rfl, q⟩
theorem r_geI {i j : Int} (q : Q (.bl (decide (j ≤ i))) H) : rGeA (.int i) (.int j) H Q := ⟨i, j, rfl, rfl, q⟩
theorem r_isN (q : Q (.bl (decide (x = .non))) H) : rIsA x .non H Q := .inl ⟨rfl, q⟩
theorem r_isN_non (q : Q (.bl true) H) : rIsA .non .non H Q := .inl ⟨rfl, q⟩
theorem r_isnotN_non (q : Q (.bl false) H) : rIsNotA .non .non H Q := .inl ⟨rfl, q⟩
theorem r_isN_int {i : Int} (q : Q (.bl false) H) : rIsA (.int i) .non H Q := .inl ⟨rfl, q⟩
theorem r_isnotN_int {i : Int} (q : Q (.bl true) H) : rIsNotA (.int i) .non H Q := .inl ⟨rfl, q⟩
theorem r_isN_str {z : Str} (q : Q (.bl false) H) : rIsA (.str z) .non H Q := .inl ⟨rfl, q⟩
theorem r_isnotN_str {z : Str} (q : Q (.bl true) H) : rIsNotA (.str z) .non H Q := .inl ⟨rfl, q⟩
theorem r_isN_bl {b : Bool} (q : Q (.bl false) H) : rIsA (.bl b) .non H Q := .inl ⟨rfl, q⟩
theorem r_isnotN_bl {b : Bool} (q : Q (.bl true) H) : rIsNotA (.bl b) .non H Q := .inl ⟨rfl, q⟩
theorem r_isN_ref {p : Addr} (q : Q (.bl false) H) : rIsA (.ref p) .non H Q := .inl ⟨rfl, q⟩
theorem r_isnotN_ref {p : Addr} (q : Q (.bl true) H) : rIsNotA (.ref p) .non H Q := .inl ⟨rfl, q⟩
theorem r_isB {a b : Bool} (q : Q (.bl (decide (a = b))) H) : rIsA (.bl a) (.bl b) H Q := .inr ⟨a, b, rfl, rfl, q⟩
theorem r_isnotN (q : Q (.bl (!decide (x = .non))) H) : rIsNotA x .non H Q := .inl ⟨rfl, q⟩
theorem r_isnotB {a b : Bool} (q : Q (.bl (!decide (a = b))) H) : rIsNotA (.bl a) (.bl b) H Q := .inr ⟨a, b, rfl, rfl, q⟩
theorem r_inS {c : Nat} {z : Str} (q : Q (.bl (decide (c ∈ z.cps.toList))) H) : rInA K (.str ⟨#[c]⟩) (.str z) H Q := .inl ⟨c, z, rfl, rfl, q⟩
theorem r_ixL {p : Addr} {xs : List V} {i : Int} (h : SqL K H p xs) (ha : atI xs i = some v) (q : Q v H) : rIx K (.ref p) (.int i) H Q := .inl ⟨p, xs, i, v, rfl, rfl, h, ha, q⟩
theorem r_ixT {p : Addr} {xs : List V} {i : Int} (h : SqT K H p xs) (ha : atI xs i = some v) (q : Q v H) : rIx K (.ref p) (.int i) H Q := .inr (.inl ⟨p, xs, i, v, rfl, rfl, h, ha, q⟩)
theorem r_ixS {z : Str} {i : Int} {c : Nat} (h : z.length ≤ sizeLine) (ha : atI z.cps.toList i = some c) (q : Q (.str ⟨#[c]⟩) H) : rIx K (.str z) (.int i) H Q := .inr (.inr ⟨z, i, c, rfl, rfl, h, ha, q⟩)
theorem r_setL {p : Addr} {xs : List V} {k : Int} {j : Nat} {QH : Hp → Prop} (h : H p = some (.lst xs)) (hj : ixN xs.length k = some j) (q : QH (upd H p (.lst (xs.set j v)))) : rSetL (.ref p) (.int k) v H QH := ⟨p, xs, k, j, rfl, rfl, h, hj, q⟩
theorem r_intO {i : Int} {QC : Int → Prop} (q : QC i) : ∃ k, V.int i = .int k ∧ QC k := ⟨i, rfl, q⟩
theorem r_two {v w : V} {QC : V → V → Prop} (q : QC v w) : ∃ v1 w1, [v, w] = [v1, w1] ∧ QC v1 w1 := ⟨v, w, rfl, q⟩
theorem r_slS {z : Str} {lo hi : Option Int} (h : z.length ≤ sizeLine) (q : Q (.str (cutS z lo hi)) H) : rSlA3 K (.str z) lo hi H Q := .inl ⟨z, rfl, h, q⟩
theorem r_slL {p : Addr} {xs : List V} {lo hi : Option Int} (h : SqL K H p xs) (q : ∀ l, H l = none → Q (.ref l) (upd H l (.lst (cutV xs lo hi)))) : rSlA3 K (.ref p) lo hi H Q := .inr ⟨p, xs, rfl, h, q⟩
theorem r_app {p : Addr} {xs : List V} (h : H p = some (.lst xs)) (hl : xs.length < sizeLine) (q : Q .non (upd H p (.lst (xs ++ [y])))) : rAppend (.ref p) [y] H Q := ⟨p, xs, y, rfl, rfl, h, hl, q⟩
theorem r_tyL {p : Addr} {xs : List V} {R : Prop} (h : SqL K H p xs) (q : R) : tyV K "list" (.ref p) H ∧ R := ⟨.inl ⟨rfl, _, h⟩, q⟩
end

theorem iteD {p : Prop} {dp : Decidable p} {A B : Prop} (h1 : p → A) (h2 : ¬ p → B) : if decide p = true then A else B := by
  by_cases h : p
  · rw [if_pos (decide_eq_true h)]
    exact h1 h
  · rw [if_neg (by simp [h])]
    exact h2 h
theorem iteND {p : Prop} {dp : Decidable p} {A B : Prop} (h1 : ¬ p → A) (h2 : p → B) : if (!decide p) = true then A else B := by
  by_cases h : p
  · rw [if_neg (by simp [h])]
    exact h2 h
  · rw [if_pos (by simp [h])]
    exact h1 h
theorem iteB {c : Bool} {A B : Prop} (h1 : c = true → A) (h2 : c = false → B) : if c = true then A else B := by
  cases c with
  | true => rw [if_pos rfl]; exact h1 rfl
  | false => rw [if_neg Bool.false_ne_true]; exact h2 rfl
theorem iteNB {c : Bool} {A B : Prop} (h1 : c = false → A) (h2 : c = true → B) : if (!c) = true then A else B := by
  cases c with
  | true => exact h2 rfl
  | false => exact h1 rfl
/-! ### loops -/
section
variable {K : PySem.W.Frag} {σ : L2.St} {H : Hp} {D : Ends} {wi : TI} {g : TG} {tb : TS} {ta : TA} {te : TE}
theorem r_for (q : wi σ H fun J H1 => ∃ W : Nat → Nat → L2.St → Hp → Prop, (∃ m, W 0 m σ H1) ∧ ∀ i m σ H, W i m σ H →
      (J.stop i H ∧ D.nx σ H) ∨ (J.go i H ∧ ∃ N : L2.St → Hp → Prop, (∀ σ' H', N σ' H' → ∃ m', m' < m ∧ W (i + 1) m' σ' H') ∧ ∀ x H', J.yld i H x H' → g x σ H' fun σ2 H2 => tb { D with nx := N, ct := N, bk := D.nx } σ2 H2)) : tFor wi g tb D σ H := q
theorem r_rng1 {R : It → Hp → Prop} (q : ta σ H fun vs H1 => ∃ j : Int, vs = [.int j] ∧ -(2 ^ 62) ≤ j ∧ j < 2 ^ 62 ∧ R (Itr 0 j.toNat) H1) : iRng1 ta σ H R := q
theorem r_iAny {R : It → Hp → Prop} (q : te σ H fun x H1 => (∃ a, x = .ref a ∧ (∃ xs, SqL K H1 a xs) ∧ R (Itl K a) H1) ∨ (∃ a, x = .ref a ∧ (∃ xs, SqT K H1 a xs) ∧ R (Itt K a) H1) ∨ (∃ z, x = .str z ∧ R (Its z) H1)) : iAny K te σ H R := q
theorem r_iList {R : It → Hp → Prop} (q : te σ H fun x H1 => ∃ a, x = .ref a ∧ (∃ xs, SqL K H1 a xs) ∧ R (Itl K a) H1) : iList K te σ H R := q
theorem r_lc {tt : TT} {vs : List Nat} {Q : VK} (q : wi σ H fun J H1 => ∀ D, H1 D = none → ∃ W : Nat → Nat → Hp → Prop, (∃ m, W 0 m (upd H1 D (.lst []))) ∧ ∀ i m H, W i m H →
  (J.stop i H ∧ Q (.ref D) H) ∨ (J.go i H ∧ ∃ Nx : Hp → Prop, (∀ H', Nx H' → ∃ m', m' < m ∧ W (i + 1) m' H') ∧ ∀ x H', J.yld i H x H' → g x (wipe σ vs) H' fun σ2 H2 => wipe σ2 vs = wipe σ vs ∧ tt σ2 H2 fun b H3 =>
    if b = true then te σ2 H3 fun y H4 => ∃ acc, H4 D = some (.lst acc) ∧ acc.length < sizeLine ∧ Nx (upd H4 D (.lst (acc ++ [y]))) else Nx H3)) : tLc wi g tt te vs σ H Q := q
theorem r_yes {QB : Bool → Hp → Prop} (q : QB true H) : tYes σ H QB := q
theorem r_gN {i : Nat} {v : V} {R : L2.St → Hp → Prop} (q : R (σ.set i (some v)) H) : gName i v σ H R := q
end

/-! ### a comprehension whose elements only read (and lay new things) -/
theorem lc_pure {J : It} {n : Nat} {G : Hp → Prop} {Y : Nat → Hp → V → Hp → Prop} (w : L2.Walk J n G Y) {te : TE} {j : Nat} {vs : List Nat} {σ : L2.St} {H1 : Hp} {Qd : Hp → Prop} {D : Addr} (hD : H1 D = none) (it f : Nat → V)
    (hy : ∀ i H x H', i < n → G H → Y i H x H' → H' = H ∧ x = it i) (hG : ∀ H', Evl.Ex H1 H' → G H') (hw : ∀ x, wipe ((wipe σ vs).set j (some x)) vs = wipe σ vs) (hn : n ≤ 1000000)
    (hel : ∀ i, i < n → ∀ H', Evl.Ex H1 H' → ∀ Q' : VK, (∀ H'', Evl.Ex H' H'' → Q' (f i) H'') → te ((wipe σ vs).set j (some (it i))) H' Q')
    (q : ∀ H', Evl.Ex H1 H' → H' D = some (.lst ((List.range n).map f)) → Qd H') :
    ∃ W : Nat → Nat → Hp → Prop, (∃ m, W 0 m (upd H1 D (.lst []))) ∧ ∀ i m H, W i m H →
      (J.stop i H ∧ Qd H) ∨ (J.go i H ∧ ∃ Nx : Hp → Prop, (∀ H', Nx H' → ∃ m', m' < m ∧ W (i + 1) m' H') ∧ ∀ x H', J.yld i H x H' → gName j x (wipe σ vs) H' fun σ2 H2 => wipe σ2 vs = wipe σ vs ∧ tYes σ2 H2 fun b H3 =>
        if b = true then te σ2 H3 fun y H4 => ∃ acc, H4 D = some (.lst acc) ∧ acc.length < sizeLine ∧ Nx (upd H4 D (.lst (acc ++ [y]))) else Nx H3) := by
  refine lc_it w (fun i H' => Evl.Ex H1 H' ∧ H' D = some (.lst ((List.range i).map f))) ⟨Evl.Ex.new hD, upd_same⟩ (fun i H' _ p => hG H' p.1) ?_ (fun H' p => q H' p.1 p.2)
  rintro i x H H' hi ⟨e1, e2⟩ hyy
  obtain ⟨rfl, rfl⟩ := hy i H x H' hi (hG H e1) hyy
  refine ⟨hw _, r_yes (iteT ?_)⟩
  refine hel i hi _ e1 _ fun H2 e3 => ⟨_, e3 _ _ e2, ?_, Evl.Ex.mut (e1.trans e3) hD, ?_⟩
  · rw [List.length_map, List.length_range, sizeLine_eq]
    omega
  · rw [upd_same, List.range_succ, List.map_append]
    rfl
/-- over a text -/
theorem lc_str {z : Str} {te : TE} {j : Nat} {vs : List Nat} {σ : L2.St} {H1 : Hp} {Qd : Hp → Prop} {D : Addr} (hD : H1 D = none) (f : Nat → V) (hw : ∀ x, wipe ((wipe σ vs).set j (some x)) vs = wipe σ vs) (hn : z.length ≤ 1000000)
    (hel : ∀ c, c ∈ z.cps.toList → ∀ H', Evl.Ex H1 H' → ∀ Q' : VK, (∀ H'', Evl.Ex H' H'' → Q' (f c) H'') → te ((wipe σ vs).set j (some (.str ⟨#[c]⟩))) H' Q')
    (q : ∀ H', Evl.Ex H1 H' → H' D = some (.lst (z.cps.toList.map f)) → Qd H') :
    ∃ W : Nat → Nat → Hp → Prop, (∃ m, W 0 m (upd H1 D (.lst []))) ∧ ∀ i m H, W i m H →
      ((Its z).stop i H ∧ Qd H) ∨ ((Its z).go i H ∧ ∃ Nx : Hp → Prop, (∀ H', Nx H' → ∃ m', m' < m ∧ W (i + 1) m' H') ∧ ∀ x H', (Its z).yld i H x H' → gName j x (wipe σ vs) H' fun σ2 H2 => wipe σ2 vs = wipe σ vs ∧ tYes σ2 H2 fun b H3 =>
        if b = true then te σ2 H3 fun y H4 => ∃ acc, H4 D = some (.lst acc) ∧ acc.length < sizeLine ∧ Nx (upd H4 D (.lst (acc ++ [y]))) else Nx H3) := by
  have sz : z.cps.size = z.length := rfl
  have key : ∀ i, i < z.cps.size → z.cps.getD i 0 ∈ z.cps.toList := fun i hi => by
    have : z.cps.getD i 0 = z.cps[i] := by simp [Array.getD, hi]
    rw [this]
    exact Array.getElem_mem_toList hi
  refine lc_pure walk_str hD (fun i => .str ⟨#[z.cps.getD i 0]⟩) (fun i => f (z.cps.getD i 0)) ?_ (fun _ _ => trivial) hw (by omega) (fun i hi => hel _ (key i hi)) (fun H' e1 e3 => q H' e1 ?_)
  · rintro i H x H' hi _ ⟨e, c, hc, rfl⟩
    refine ⟨e, ?_⟩
    simp [Array.getD, hi] at hc ⊢
    exact hc.symm
  · rw [e3]
    congr 2
    refine List.ext_getElem (by simp) fun i h1 h2 => ?_
    simp at h1
    simp [Array.getD, h1]
/-- over a list or tuple -/
theorem lc_seq {K : PySem.W.Frag} {a : Addr} {xs : List V} {te : TE} {j : Nat} {vs : List Nat} {σ : L2.St} {H1 : Hp} {Qd : Hp → Prop} {D : Addr} (hD : H1 D = none) (f : V → V) (hs : SqL K H1 a xs) (hw : ∀ x, wipe ((wipe σ vs).set j (some x)) vs = wipe σ vs) (hn : xs.length ≤ 1000000)
    (hel : ∀ v, v ∈ xs → ∀ H', Evl.Ex H1 H' → ∀ Q' : VK, (∀ H'', Evl.Ex H' H'' → Q' (f v) H'') → te ((wipe σ vs).set j (some v)) H' Q')
    (q : ∀ H', Evl.Ex H1 H' → H' D = some (.lst (xs.map f)) → Qd H') :
    ∃ W : Nat → Nat → Hp → Prop, (∃ m, W 0 m (upd H1 D (.lst []))) ∧ ∀ i m H, W i m H →
      ((Itl K a).stop i H ∧ Qd H) ∨ ((Itl K a).go i H ∧ ∃ Nx : Hp → Prop, (∀ H', Nx H' → ∃ m', m' < m ∧ W (i + 1) m' H') ∧ ∀ x H', (Itl K a).yld i H x H' → gName j x (wipe σ vs) H' fun σ2 H2 => wipe σ2 vs = wipe σ vs ∧ tYes σ2 H2 fun b H3 =>
        if b = true then te σ2 H3 fun y H4 => ∃ acc, H4 D = some (.lst acc) ∧ acc.length < sizeLine ∧ Nx (upd H4 D (.lst (acc ++ [y]))) else Nx H3) := by
  have key : ∀ i, i < xs.length → xs.getD i .non ∈ xs := fun i hi => by
    rw [List.getD_eq_getElem?_getD, List.getElem?_eq_getElem hi]
    exact List.getElem_mem hi
  refine lc_pure walk_list hD (fun i => xs.getD i .non) (fun i => f (xs.getD i .non)) ?_ (fun _ e => Evl.ex_l e hs) hw (by omega) (fun i hi => hel _ (key i hi)) (fun H' e1 e3 => q H' e1 ?_)
  · rintro i H x H' hi _ ⟨e, hx⟩
    exact ⟨e, by rw [List.getD_eq_getElem?_getD, hx]; rfl⟩
  · rw [e3]
    congr 2
    refine List.ext_getElem (by simp) fun i h1 h2 => ?_
    simp at h1
    simp [List.getElem?_eq_getElem h1]
theorem lc_tupl {K : PySem.W.Frag} {a : Addr} {xs : List V} {te : TE} {j : Nat} {vs : List Nat} {σ : L2.St} {H1 : Hp} {Qd : Hp → Prop} {D : Addr} (hD : H1 D = none) (f : V → V) (hs : SqT K H1 a xs) (hw : ∀ x, wipe ((wipe σ vs).set j (some x)) vs = wipe σ vs) (hn : xs.length ≤ 1000000)
    (hel : ∀ v, v ∈ xs → ∀ H', Evl.Ex H1 H' → ∀ Q' : VK, (∀ H'', Evl.Ex H' H'' → Q' (f v) H'') → te ((wipe σ vs).set j (some v)) H' Q')
    (q : ∀ H', Evl.Ex H1 H' → H' D = some (.lst (xs.map f)) → Qd H') :
    ∃ W : Nat → Nat → Hp → Prop, (∃ m, W 0 m (upd H1 D (.lst []))) ∧ ∀ i m H, W i m H →
      ((Itt K a).stop i H ∧ Qd H) ∨ ((Itt K a).go i H ∧ ∃ Nx : Hp → Prop, (∀ H', Nx H' → ∃ m', m' < m ∧ W (i + 1) m' H') ∧ ∀ x H', (Itt K a).yld i H x H' → gName j x (wipe σ vs) H' fun σ2 H2 => wipe σ2 vs = wipe σ vs ∧ tYes σ2 H2 fun b H3 =>
        if b = true then te σ2 H3 fun y H4 => ∃ acc, H4 D = some (.lst acc) ∧ acc.length < sizeLine ∧ Nx (upd H4 D (.lst (acc ++ [y]))) else Nx H3) := by
  have key : ∀ i, i < xs.length → xs.getD i .non ∈ xs := fun i hi => by
    rw [List.getD_eq_getElem?_getD, List.getElem?_eq_getElem hi]
    exact List.getElem_mem hi
  refine lc_pure walk_tup hD (fun i => xs.getD i .non) (fun i => f (xs.getD i .non)) ?_ (fun _ e => Evl.ex_t e hs) hw (by omega) (fun i hi => hel _ (key i hi)) (fun H' e1 e3 => q H' e1 ?_)
  · rintro i H x H' hi _ ⟨e, hx⟩
    exact ⟨e, by rw [List.getD_eq_getElem?_getD, hx]; rfl⟩
  · rw [e3]
    congr 2
    refine List.ext_getElem (by simp) fun i h1 h2 => ?_
    simp at h1
    simp [List.getElem?_eq_getElem h1]
theorem r_all {K : PySem.W.Frag} {H : Hp} {Q : VK} {D : Addr} {bs : List Bool} (h : H D = some (.lst (bs.map V.bl))) (q : Q (.bl (bs.all id)) H) : rAll K [.ref D] H Q := ⟨D, bs, rfl, SqL.of h, q⟩
theorem r_any {K : PySem.W.Frag} {H : Hp} {Q : VK} {D : Addr} {bs : List Bool} (h : H D = some (.lst (bs.map V.bl))) (q : Q (.bl (bs.any id)) H) : rAny K [.ref D] H Q := ⟨D, bs, rfl, SqL.of h, q⟩

/-! ### the heap without the bag -/
def hid (b : Addr) (H : Hp) : Hp := fun a => if a = b then none else H a
section
variable {b a p : Addr} {H H' : Hp} {o o' : HO}
theorem hid_of (h : H a = some o) (ne : a ≠ b) : hid b H a = some o := by unfold hid; rw [if_neg ne]; exact h
theorem hid_get (h : hid b H a = some o) : H a = some o := by
  unfold hid at h
  by_cases e : a = b
  · rw [if_pos e] at h; cases h
  · rw [if_neg e] at h; exact h
theorem hid_ne (h : hid b H a = some o) : a ≠ b := by
  intro e
  unfold hid at h
  rw [if_pos e] at h
  cases h
theorem hid_bag : hid b (upd H b o) = hid b H := by
  funext a
  unfold hid
  by_cases e : a = b
  · rw [if_pos e, if_pos e]
  · rw [if_neg e, if_neg e, upd_ne e]
theorem hid_up (h : p ≠ b) : hid b (upd H p o) = upd (hid b H) p o := by
  funext a
  unfold hid
  by_cases e : a = b
  · rw [if_pos e, upd_ne (by rw [e]; exact h.symm), if_pos e]
  · by_cases e2 : a = p
    · rw [if_neg e, e2, upd_same, upd_same]
    · rw [if_neg e, upd_ne e2, upd_ne e2, if_neg e]
theorem hid_ex : Evl.Ex (hid b H) H := fun _ _ h => hid_get h
theorem hid_none (h : H p = none) : hid b H p = none := by
  unfold hid
  by_cases e : p = b
  · rw [if_pos e]
  · rw [if_neg e]; exact h
end
def BagL (n : Nat) (l : List V) : Prop := ∃ x y z : Int, l = [.int x, .int y, .int z] ∧ 0 ≤ y ∧ y ≤ 4294967296 ∧ 0 ≤ z ∧ z ≤ (n : Int)
theorem BagL.mono {n m : Nat} {l : List V} (h : BagL n l) (e : n ≤ m) : BagL m l := by
  obtain ⟨x, y, z, rfl, h1, h2, h3, h4⟩ := h
  exact ⟨x, y, z, rfl, h1, h2, h3, by omega⟩
/-- the bag at b, so many draws at most so far -/
def Bag (b : Addr) (n : Nat) (H : Hp) : Prop := ∃ l, H b = some (.lst l) ∧ BagL n l
structure Drw (b : Addr) (n : Nat) (H H' : Hp) : Prop where
  ex : Evl.Ex (hid b H) (hid b H')
  bag : Bag b n H'
theorem Drw.trans {b : Addr} {n m : Nat} {H H1 H2 : Hp} (x : Drw b n H H1) (y : Drw b m H1 H2) : Drw b m H H2 := ⟨x.ex.trans y.ex, y.bag⟩
theorem Bag.mono {b : Addr} {n m : Nat} {H : Hp} (h : Bag b n H) (e : n ≤ m) : Bag b m H := let ⟨l, h1, h2⟩ := h; ⟨l, h1, h2.mono e⟩
theorem Drw.mono {b : Addr} {n m : Nat} {H H' : Hp} (h : Drw b n H H') (e : n ≤ m) : Drw b m H H' := ⟨h.ex, h.bag.mono e⟩
theorem Bag.refl {b : Addr} {n : Nat} {H : Hp} (h : Bag b n H) : Drw b n H H := ⟨Evl.Ex.refl _, h⟩
/-- a new object -/
theorem Bag.new {b p : Addr} {n : Nat} {H : Hp} {o : HO} (h : Bag b n H) (hp : H p = none) : Drw b n H (upd H p o) ∧ hid b (upd H p o) p = some o := by
  obtain ⟨l, h1, h2⟩ := h
  have ne : p ≠ b := (ne_of_none h1 hp).symm
  refine ⟨⟨?_, l, ?_, h2⟩, ?_⟩
  · rw [hid_up ne]
    exact Evl.Ex.new (hid_none hp)
  · rw [upd_ne ne.symm]; exact h1
  · exact hid_of upd_same ne
/-- an object that is not the bag and that H0 did not know is changed -/
theorem Drw.put {b p : Addr} {n : Nat} {H0 H : Hp} {o : HO} (h : Drw b n H0 H) (hp : hid b H0 p = none) (ne : p ≠ b) : Drw b n H0 (upd H p o) := by
  obtain ⟨l, h1, h2⟩ := h.bag
  refine ⟨?_, l, ?_, h2⟩
  · rw [hid_up ne]
    exact Evl.Ex.mut h.ex hp
  · rw [upd_ne ne.symm]; exact h1
theorem Drw.l {K : PySem.W.Frag} {b a : Addr} {n : Nat} {H H' : Hp} {xs : List V} (h : Drw b n H H') (s : SqL K (hid b H) a xs) : SqL K (hid b H') a xs := Evl.ex_l h.ex s
theorem Drw.t {K : PySem.W.Frag} {b a : Addr} {n : Nat} {H H' : Hp} {xs : List V} (h : Drw b n H H') (s : SqT K (hid b H) a xs) : SqT K (hid b H') a xs := Evl.ex_t h.ex s
def SqA (K : PySem.W.Frag) (H : Hp) (a : Addr) (xs : List V) : Prop := SqL K H a xs ∨ SqT K H a xs
theorem SqA.mono {K : PySem.W.Frag} {H H' : Hp} {a : Addr} {xs : List V} (e : Evl.Ex H H') (h : SqA K H a xs) : SqA K H' a xs := by
  rcases h with h | h
  · exact .inl (Evl.ex_l e h)
  · exact .inr (Evl.ex_t e h)
/-- a word of small letters -/
def Word (m : Nat) (z : Str) : Prop := z.length ≤ m ∧ ∀ c ∈ z.cps.toList, 97 ≤ c ∧ c ≤ 122
/-- a class name -/
def Let (c : Nat) : Prop := (97 ≤ c ∧ c ≤ 122) ∨ (65 ≤ c ∧ c ≤ 90)
def ClsN (z : Str) : Prop := ∃ (c : Nat) (r : List Nat), z.cps.toList = c :: r ∧ (65 ≤ c ∧ c ≤ 90) ∧ (∀ d ∈ r, Let d) ∧ r.length ≤ 11
/-! ### isinstance -/
section
variable {K : PySem.W.Frag} {H : Hp} {Q : VK}
theorem ty_lst {a : Addr} {xs : List V} (h : SqL K H a xs) : TyX K H (.ref a) (.type "list") := by
  rcases h with (h | ⟨o, h⟩) | ⟨o, its, n, h1, h2, h3⟩
  · exact .base (.lst h)
  · exact .base (.frz h)
  · exact .kList h1 h2
theorem ty_tup {a : Addr} {xs : List V} (h : SqT K H a xs) : TyX K H (.ref a) (.type "tuple") := by
  rcases h with (h | ⟨o, h⟩) | ⟨o, its, n, h1, h2, h3⟩
  · exact .base (.tup h)
  · exact .fTuple h
  · exact .kTuple h1 h2
theorem r_isi {x : V} {n m : String} {b : Bool} (ty : TyX K H x (.type n)) (h : kitB n m = some b) (q : Q (.bl b) H) : rIsi K [x, .ty m] H Q := ⟨x, .ty m, _, _, b, rfl, .ty m, ty, kit_ty h, q⟩
theorem r_isiLT {x : V} {n : String} {b1 b2 b : Bool} {tp : Addr} (ht : H tp = some (.tup [.ty "list", .ty "tuple"])) (ty : TyX K H x (.type n)) (h1 : kitB n "list" = some b1) (h2 : kitB n "tuple" = some b2) (hb : (b1 || b2) = b) (q : Q (.bl b) H) : rIsiT K [x, .ref tp] H Q := by
  refine ⟨x, tp, _, _, [.type "list", .type "tuple"], b, rfl, ht, .cons (.ty _) (.cons (.ty _) .nil), ty, kitAny_cons (kit_ty h1) (fun e1 => kitAny_cons (kit_ty h2) (fun e2 => ?_) (fun e2 => ?_)) (fun e1 => ?_), q⟩
  · rw [← hb, e1, e2]; exact kitAny_nil
  · rw [← hb, e1, e2]; rfl
  · rw [← hb, e1]; rfl
theorem r_isiLT_non {tp : Addr} (ht : H tp = some (.tup [.ty "list", .ty "tuple"])) (q : Q (.bl false) H) : rIsiT K [.non, .ref tp] H Q := r_isiLT (b1 := false) (b2 := false) ht (TyX.base .non) (by decide +kernel) (by decide +kernel) rfl q
theorem r_isiLT_bl {tp : Addr} (ht : H tp = some (.tup [.ty "list", .ty "tuple"])) {b : Bool} (q : Q (.bl false) H) : rIsiT K [(.bl b), .ref tp] H Q := r_isiLT (b1 := false) (b2 := false) ht (TyX.base (.bl b)) (by decide +kernel) (by decide +kernel) rfl q
theorem r_isiLT_int {tp : Addr} (ht : H tp = some (.tup [.ty "list", .ty "tuple"])) {i : Int} (q : Q (.bl false) H) : rIsiT K [(.int i), .ref tp] H Q := r_isiLT (b1 := false) (b2 := false) ht (TyX.base (.int i)) (by decide +kernel) (by decide +kernel) rfl q
theorem r_isiLT_str {tp : Addr} (ht : H tp = some (.tup [.ty "list", .ty "tuple"])) {z : Str} (q : Q (.bl false) H) : rIsiT K [(.str z), .ref tp] H Q := r_isiLT (b1 := false) (b2 := false) ht (TyX.base (.str z)) (by decide +kernel) (by decide +kernel) rfl q
theorem r_isiLT_lst {tp : Addr} (ht : H tp = some (.tup [.ty "list", .ty "tuple"])) {p : Addr} {xs : List V} (h : SqL K H p xs) (q : Q (.bl true) H) : rIsiT K [(.ref p), .ref tp] H Q := r_isiLT (b1 := true) (b2 := false) ht (ty_lst h) (by decide +kernel) (by decide +kernel) rfl q
theorem r_isiLT_tup {tp : Addr} (ht : H tp = some (.tup [.ty "list", .ty "tuple"])) {p : Addr} {xs : List V} (h : SqT K H p xs) (q : Q (.bl true) H) : rIsiT K [(.ref p), .ref tp] H Q := r_isiLT (b1 := false) (b2 := true) ht (ty_tup h) (by decide +kernel) (by decide +kernel) rfl q
theorem r_isi_non_int (q : Q (.bl false) H) : rIsi K [.non, .ty "int"] H Q := r_isi (TyX.base .non) (by decide +kernel) q
theorem r_isi_non_str (q : Q (.bl false) H) : rIsi K [.non, .ty "str"] H Q := r_isi (TyX.base .non) (by decide +kernel) q
theorem r_isi_non_list (q : Q (.bl false) H) : rIsi K [.non, .ty "list"] H Q := r_isi (TyX.base .non) (by decide +kernel) q
theorem r_isi_non_tuple (q : Q (.bl false) H) : rIsi K [.non, .ty "tuple"] H Q := r_isi (TyX.base .non) (by decide +kernel) q
theorem r_isi_non_bool (q : Q (.bl false) H) : rIsi K [.non, .ty "bool"] H Q := r_isi (TyX.base .non) (by decide +kernel) q
theorem r_isi_bl_int {b : Bool} (q : Q (.bl true) H) : rIsi K [(.bl b), .ty "int"] H Q := r_isi (TyX.base (.bl b)) (by decide +kernel) q
theorem r_isi_bl_str {b : Bool} (q : Q (.bl false) H) : rIsi K [(.bl b), .ty "str"] H Q := r_isi (TyX.base (.bl b)) (by decide +kernel) q
theorem r_isi_bl_list {b : Bool} (q : Q (.bl false) H) : rIsi K [(.bl b), .ty "list"] H Q := r_isi (TyX.base (.bl b)) (by decide +kernel) q
theorem r_isi_bl_tuple {b : Bool} (q : Q (.bl false) H) : rIsi K [(.bl b), .ty "tuple"] H Q := r_isi (TyX.base (.bl b)) (by decide +kernel) q
theorem r_isi_bl_bool {b : Bool} (q : Q (.bl true) H) : rIsi K [(.bl b), .ty "bool"] H Q := r_isi (TyX.base (.bl b)) (by decide +kernel) q
theorem r_isi_int_int {i : Int} (q : Q (.bl true) H) : rIsi K [(.int i), .ty "int"] H Q := r_isi (TyX.base (.int i)) (by decide +kernel) q
theorem r_isi_int_str {i : Int} (q : Q (.bl false) H) : rIsi K [(.int i), .ty "str"] H Q := r_isi (TyX.base (.int i)) (by decide +kernel) q
theorem r_isi_int_list {i : Int} (q : Q (.bl false) H) : rIsi K [(.int i), .ty "list"] H Q := r_isi (TyX.base (.int i)) (by decide +kernel) q
theorem r_isi_int_tuple {i : Int} (q : Q (.bl false) H) : rIsi K [(.int i), .ty "tuple"] H Q := r_isi (TyX.base (.int i)) (by decide +kernel) q
theorem r_isi_int_bool {i : Int} (q : Q (.bl false) H) : rIsi K [(.int i), .ty "bool"] H Q := r_isi (TyX.base (.int i)) (by decide +kernel) q
theorem r_isi_str_int {z : Str} (q : Q (.bl false) H) : rIsi K [(.str z), .ty "int"] H Q := r_isi (TyX.base (.str z)) (by decide +kernel) q
theorem r_isi_str_str {z : Str} (q : Q (.bl true) H) : rIsi K [(.str z), .ty "str"] H Q := r_isi (TyX.base (.str z)) (by decide +kernel) q
theorem r_isi_str_list {z : Str} (q : Q (.bl false) H) : rIsi K [(.str z), .ty "list"] H Q := r_isi (TyX.base (.str z)) (by decide +kernel) q
theorem r_isi_str_tuple {z : Str} (q : Q (.bl false) H) : rIsi K [(.str z), .ty "tuple"] H Q := r_isi (TyX.base (.str z)) (by decide +kernel) q
theorem r_isi_str_bool {z : Str} (q : Q (.bl false) H) : rIsi K [(.str z), .ty "bool"] H Q := r_isi (TyX.base (.str z)) (by decide +kernel) q
theorem r_isi_lst_int {p : Addr} {xs : List V} (h : SqL K H p xs) (q : Q (.bl false) H) : rIsi K [(.ref p), .ty "int"] H Q := r_isi (ty_lst h) (by decide +kernel) q
theorem r_isi_lst_str {p : Addr} {xs : List V} (h : SqL K H p xs) (q : Q (.bl false) H) : rIsi K [(.ref p), .ty "str"] H Q := r_isi (ty_lst h) (by decide +kernel) q
theorem r_isi_lst_list {p : Addr} {xs : List V} (h : SqL K H p xs) (q : Q (.bl true) H) : rIsi K [(.ref p), .ty "list"] H Q := r_isi (ty_lst h) (by decide +kernel) q
theorem r_isi_lst_tuple {p : Addr} {xs : List V} (h : SqL K H p xs) (q : Q (.bl false) H) : rIsi K [(.ref p), .ty "tuple"] H Q := r_isi (ty_lst h) (by decide +kernel) q
theorem r_isi_lst_bool {p : Addr} {xs : List V} (h : SqL K H p xs) (q : Q (.bl false) H) : rIsi K [(.ref p), .ty "bool"] H Q := r_isi (ty_lst h) (by decide +kernel) q
theorem r_isi_tup_int {p : Addr} {xs : List V} (h : SqT K H p xs) (q : Q (.bl false) H) : rIsi K [(.ref p), .ty "int"] H Q := r_isi (ty_tup h) (by decide +kernel) q
theorem r_isi_tup_str {p : Addr} {xs : List V} (h : SqT K H p xs) (q : Q (.bl false) H) : rIsi K [(.ref p), .ty "str"] H Q := r_isi (ty_tup h) (by decide +kernel) q
theorem r_isi_tup_list {p : Addr} {xs : List V} (h : SqT K H p xs) (q : Q (.bl false) H) : rIsi K [(.ref p), .ty "list"] H Q := r_isi (ty_tup h) (by decide +kernel) q
theorem r_isi_tup_tuple {p : Addr} {xs : List V} (h : SqT K H p xs) (q : Q (.bl true) H) : rIsi K [(.ref p), .ty "tuple"] H Q := r_isi (ty_tup h) (by decide +kernel) q
theorem r_isi_tup_bool {p : Addr} {xs : List V} (h : SqT K H p xs) (q : Q (.bl false) H) : rIsi K [(.ref p), .ty "bool"] H Q := r_isi (ty_tup h) (by decide +kernel) q
end
/-! ### plain values as data -/
def datV : V → PyData
  | .non => .none
  | .bl b => .bool b
  | .int i => .int i
  | .str z => .str z
  | _ => .none
def Sc : V → Prop
  | .non => True
  | .bl _ => True
  | .int _ => True
  | .str z => PyData.strOk z = true
  | _ => False
theorem dp_sc {K : PySem.W.Frag} {H : Hp} {v : V} (h : Sc v) : Dp K H v (datV v) := by
  cases v with
  | non => exact .non
  | bl b => exact .bl b
  | int i => exact .int i
  | str z => exact .str z
  | _ => exact h.elim
theorem dpAll_sc {K : PySem.W.Frag} {H : Hp} : ∀ {xs : List V}, (∀ v ∈ xs, Sc v) → DpAll K H xs (xs.map datV)
  | [], _ => .nil
  | v :: r, h => .cons (dp_sc (h v (List.mem_cons_self ..))) (dpAll_sc fun u hu => h u (List.mem_cons_of_mem _ hu))
theorem canLay_sc {v : V} (h : Sc v) : (datV v).canLay0 = true ∧ (datV v).depth = 0 := by
  cases v with
  | str z => exact ⟨by simpa [datV, PyData.canLay0] using (show PyData.strOk z = true from h), by simp [datV, PyData.depth]⟩
  | non => exact ⟨by simp [datV, PyData.canLay0], by simp [datV, PyData.depth]⟩
  | bl z => exact ⟨by simp [datV, PyData.canLay0], by simp [datV, PyData.depth]⟩
  | int z => exact ⟨by simp [datV, PyData.canLay0], by simp [datV, PyData.depth]⟩
  | _ => exact h.elim
theorem canLayAll_sc : ∀ {xs : List V}, (∀ v ∈ xs, Sc v) → PyData.canLayAll0 (xs.map datV) = true ∧ PyData.depthAll (xs.map datV) = 0
  | [], _ => ⟨by simp [PyData.canLayAll0], by simp [PyData.depthAll]⟩
  | v :: r, h => by
    have h1 := canLay_sc (h v (List.mem_cons_self ..))
    have h2 := canLayAll_sc (xs := r) fun u hu => h u (List.mem_cons_of_mem _ hu)
    exact ⟨by simp [PyData.canLayAll0, h1.1, h2.1], by simp [PyData.depthAll, h1.2, h2.2]⟩
theorem shaped_list {xs : List V} (h : ∀ v ∈ xs, Sc v) : SeqAt.shaped (.list (xs.map datV)) = true := by
  have h2 := canLayAll_sc h
  simp [SeqAt.shaped, PyData.canLay0, PyData.depth, h2.1, h2.2]
theorem shaped_tuple {xs : List V} (h : ∀ v ∈ xs, Sc v) : SeqAt.shaped (.tuple (xs.map datV)) = true := by
  have h2 := canLayAll_sc h
  simp [SeqAt.shaped, PyData.canLay0, PyData.depth, h2.1, h2.2]
theorem eqv_same {d : PyData} (h : SeqAt.shaped d = true) : PyData.eqv d d = true := SeqAt.eqv_refl d (SeqAt.canLay_of_shaped h)
theorem word_ok {m : Nat} {z : Str} (h : Word m z) : PyData.strOk z = true := by
  unfold PyData.strOk
  rw [← Array.all_toList, List.all_eq_true]
  intro c hc
  have := h.2 c hc
  exact decide_eq_true (by omega)
theorem str_ok {z : Str} (h : ∀ c ∈ z.cps.toList, c < 1114112) : PyData.strOk z = true := by
  unfold PyData.strOk
  rw [← Array.all_toList, List.all_eq_true]
  intro c hc
  exact decide_eq_true (h c hc)
theorem cls_ok {z : Str} (h : ClsN z) : PyData.strOk z = true := by
  obtain ⟨c, r, e, h1, h2, _⟩ := h
  refine str_ok fun d hd => ?_
  rw [e] at hd
  rcases List.mem_cons.mp hd with rfl | hd
  · omega
  · rcases h2 d hd with h | h <;> omega
/-- a bag just made: what stood before is what is seen without it -/
theorem hid_start {b : Addr} {H : Hp} {o : HO} (h : H b = none) : hid b (upd H b o) = H := by
  rw [hid_bag]
  funext a
  unfold hid
  by_cases e : a = b
  · rw [if_pos e, e, h]
  · rw [if_neg e]
theorem iteTc {c : Bool} {A B : Prop} (hc : c = true) (h : A) : if c = true then A else B := by rw [if_pos hc]; exact h
theorem iteFc {c : Bool} {A B : Prop} (hc : c = false) (h : B) : if c = true then A else B := by rw [hc, if_neg Bool.false_ne_true]; exact h
theorem iteY {p : Prop} {dp : Decidable p} {A B : Prop} (hc : p) (h : A) : if decide p = true then A else B := by rw [if_pos (decide_eq_true hc)]; exact h
theorem iteN {p : Prop} {dp : Decidable p} {A B : Prop} (hc : ¬ p) (h : B) : if decide p = true then A else B := by rw [if_neg (by simp [hc])]; exact h
theorem iteNY {p : Prop} {dp : Decidable p} {A B : Prop} (hc : p) (h : B) : if (!decide p) = true then A else B := by rw [if_neg (by simp [hc])]; exact h
theorem iteNN {p : Prop} {dp : Decidable p} {A B : Prop} (hc : ¬ p) (h : A) : if (!decide p) = true then A else B := by rw [if_pos (by simp [hc])]; exact h
theorem r_neDF {K : PySem.W.Frag} {H : Hp} {Q : VK} {x y : V} {d : PyData} (h1 : Dp K H x d) (h2 : Dp K H y d) (s : SeqAt.shaped d = true) (q : Q (.bl false) H) : rNeA K x y H Q := .inr ⟨d, d, h1, h2, s, s, by rw [eqv_same s]; exact q⟩
theorem r_eqDT {K : PySem.W.Frag} {H : Hp} {Q : VK} {x y : V} {d : PyData} (h1 : Dp K H x d) (h2 : Dp K H y d) (s : SeqAt.shaped d = true) (q : Q (.bl true) H) : rEqA K x y H Q := .inr ⟨d, d, h1, h2, s, s, by rw [eqv_same s]; exact q⟩
/-- the built-in names that stand -/
structure Bl (mg : Str → Option Value) : Prop where
  len : mg "len" = none
  abs : mg "abs" = none
  max : mg "max" = none
  min : mg "min" = none
  isinstance : mg "isinstance" = none
  range : mg "range" = none
  int : mg "int" = none
  str : mg "str" = none
  list : mg "list" = none
  tuple : mg "tuple" = none
  bool : mg "bool" = none
  dict : mg "dict" = none
  all : mg "all" = none
  any : mg "any" = none
  enumerate : mg "enumerate" = none
  sorted : mg "sorted" = none
  repr : mg "repr" = none
def blNames : List Str := ["len", "abs", "max", "min", "isinstance", "range", "int", "str", "list", "tuple", "bool", "dict", "all", "any", "enumerate", "sorted", "repr"]
/-! ### what is new -/
/-- what H' has at places that H did not have -/
def nov (H H' : Hp) : Hp := fun a => if (H a).isSome = true then none else H' a
theorem nov_get {H H' : Hp} {a : Addr} {o : HO} (h : nov H H' a = some o) : H a = none ∧ H' a = some o := by
  unfold nov at h
  cases e : H a with
  | none => rw [e, if_neg (by simp)] at h; exact ⟨rfl, h⟩
  | some u => rw [e, if_pos (show (some u).isSome = true from rfl)] at h; cases h
theorem nov_of {H H' : Hp} {a : Addr} {o : HO} (h1 : H a = none) (h2 : H' a = some o) : nov H H' a = some o := by
  unfold nov
  rw [h1, if_neg (by simp)]
  exact h2
theorem nov_ex {H H' : Hp} : Evl.Ex (nov H H') H' := fun _ _ h => (nov_get h).2
theorem Bag.some {b : Addr} {n : Nat} {H : Hp} (h : Bag b n H) : H b ≠ none := by
  obtain ⟨l, h1, _⟩ := h
  rw [h1]
  exact fun e => by cases e
theorem Drw.novm {b : Addr} {n : Nat} {H0 H1 H2 : Hp} (r : Drw b n H1 H2) (hb : H0 b ≠ none) : Evl.Ex (nov H0 H1) (nov H0 H2) := fun a o h => by
  obtain ⟨h1, h2⟩ := nov_get h
  have ne : a ≠ b := fun e => hb (by rw [← e]; exact h1)
  exact nov_of h1 (hid_get (r.ex _ _ (hid_of h2 ne)))
theorem Drw.dom {b : Addr} {n : Nat} {H0 H1 : Hp} (r : Drw b n H0 H1) {a : Addr} (h : H1 a = none) : H0 a = none := by
  cases e : H0 a with
  | none => rfl
  | some o =>
    by_cases hb : a = b
    · exact absurd (hb ▸ h) r.bag.some
    · have := hid_get (r.ex _ _ (hid_of e hb))
      rw [h] at this
      cases this
theorem Drw.base {b : Addr} {n : Nat} {H0 H1 H2 : Hp} (r : Drw b n H0 H1) : Evl.Ex (nov H1 H2) (nov H0 H2) := fun a o h => by
  obtain ⟨h1, h2⟩ := nov_get h
  exact nov_of (r.dom h1) h2
theorem Drw.baseL {b L : Addr} {n : Nat} {H0 H1 H2 : Hp} (r : Drw b n H0 H1) (hL : H1 L ≠ none) : Evl.Ex (nov H1 H2) (hid L (nov H0 H2)) := fun a o h => by
  refine hid_of (r.base a o h) fun e => hL ?_
  rw [← e]
  exact (nov_get h).1
theorem nov_hidb {b : Addr} {H H' : Hp} (hb : H b ≠ none) : Evl.Ex (nov H H') (hid b H') := fun a o h => by
  obtain ⟨h1, h2⟩ := nov_get h
  exact hid_of h2 fun e => hb (by rw [← e]; exact h1)
theorem hid_nov_upd {L : Addr} {H H' : Hp} {o : HO} : hid L (nov H (upd H' L o)) = hid L (nov H H') := by
  funext a
  unfold hid nov
  by_cases e : a = L
  · rw [if_pos e, if_pos e]
  · rw [if_neg e, if_neg e, upd_ne e]
theorem hid_mono {L : Addr} {H H' : Hp} (e : Evl.Ex H H') : Evl.Ex (hid L H) (hid L H') := fun a o h => hid_of (e a o (hid_get h)) (hid_ne h)
/-- a comprehension over a range whose elements are draws -/
theorem lc_draw {m : Nat} {b : Addr} {n c : Nat} {H2 : Hp} {L : Addr} {te : TE} {j : Nat} {vs : List Nat} {σ : L2.St} {Qd : Hp → Prop} (hL : H2 L = none) (hb : Bag b n H2) (hm : m ≤ 1000000) (Dat : Hp → V → Prop) (mono : ∀ G G' v, Evl.Ex G G' → Dat G v → Dat G' v)
    (hw : ∀ x, wipe ((wipe σ vs).set j (some x)) vs = wipe σ vs)
    (hel : ∀ i H', i < m → Drw b (n + c * i) H2 H' → ∀ Q' : VK, (∀ v H'', Dat (nov H' H'') v → Drw b (n + c * i + c) H' H'' → Q' v H'') → te ((wipe σ vs).set j (some (.int (0 + (i : Nat))))) H' Q')
    (q : ∀ H' xs, xs.length = m → (∀ v ∈ xs, Dat (hid L (nov H2 H')) v) → H' L = some (.lst xs) → L ≠ b → Drw b (n + c * m) H2 H' → Qd H') :
    ∃ W : Nat → Nat → Hp → Prop, (∃ m, W 0 m (upd H2 L (.lst []))) ∧ ∀ i k H, W i k H →
      ((Itr 0 m).stop i H ∧ Qd H) ∨ ((Itr 0 m).go i H ∧ ∃ Nx : Hp → Prop, (∀ H', Nx H' → ∃ m', m' < k ∧ W (i + 1) m' H') ∧ ∀ x H', (Itr 0 m).yld i H x H' → gName j x (wipe σ vs) H' fun σ2 H2 => wipe σ2 vs = wipe σ vs ∧ tYes σ2 H2 fun b H3 =>
        if b = true then te σ2 H3 fun y H4 => ∃ acc, H4 L = some (.lst acc) ∧ acc.length < sizeLine ∧ Nx (upd H4 L (.lst (acc ++ [y]))) else Nx H3) := by
  have nLb : L ≠ b := by
    obtain ⟨l, q1, _⟩ := hb
    exact (ne_of_none q1 hL).symm
  refine lc_range (lo := 0) (n := m) (fun i H' => ∃ xs : List V, xs.length = i ∧ (∀ v ∈ xs, Dat (hid L (nov H2 H')) v) ∧ H' L = some (.lst xs) ∧ Drw b (n + c * i) H2 H') ?_ ?_ ?_
  · exact ⟨[], rfl, fun _ h => by (cases h), upd_same, (hb.new hL).1⟩
  · rintro i H' hi ⟨xs, hl, hI, h1, r1⟩
    refine ⟨hw _, r_yes (iteT ?_)⟩
    refine hel i H' hi r1 _ fun v H3 hv r2 => ?_
    have hL3 : H3 L = some (.lst xs) := hid_get (r2.ex _ _ (hid_of h1 nLb))
    refine ⟨xs, hL3, by rw [sizeLine_eq]; omega, xs ++ [v], by simp [hl], ?_, upd_same, ?_⟩
    · intro u hu
      rw [hid_nov_upd]
      rcases List.mem_append.mp hu with hu | hu
      · exact mono _ _ _ (hid_mono (r2.novm hb.some)) (hI u hu)
      · rw [List.mem_singleton.mp hu]
        exact mono _ _ _ (r1.baseL (by rw [h1]; exact fun e => by cases e)) hv
    · exact (Drw.put (r1.trans r2) (hid_none hL) nLb).mono (by rw [Nat.mul_succ]; omega)
  · rintro H' ⟨xs, hl, hI, h1, r1⟩
    exact q H' xs hl hI h1 nLb r1

/-! ### what a value is, by its data -/
def smallL : List Nat := (List.range 26).map (· + 97)
def capsL : List Nat := (List.range 26).map (· + 65)
def isWordS (z : Str) (m : Int) : Bool := decide ((z.length : Int) ≤ m) && z.cps.toList.all fun c => decide (c ∈ smallL)
def isWordD (m : Int) : PyData → Bool
  | .str z => isWordS z m
  | _ => false
def isIntD : PyData → Bool
  | .int _ => true
  | _ => false
def isItemD : PyData → Bool
  | .none => true
  | .int _ => true
  | .str z => isWordS z 30
  | _ => false
def isClsS (z : Str) : Bool := match z.cps.toList with
  | [] => false
  | c :: r => decide (r.length ≤ 11) && (decide (c ∈ capsL) && (c :: r).all fun d => decide (d ∈ smallL) || decide (d ∈ capsL))
def isClsD : PyData → Bool
  | .str z => isClsS z
  | _ => false
def isNonD : PyData → Bool
  | .none => true
  | _ => false
def isRaisedD : PyData → Bool
  | .tuple [.str a, b, c] => decide (a = "raises") && (isClsD b && (isNonD c || isClsD c))
  | _ => false
theorem raised_len {xs : List PyData} (h : xs.length ≠ 3) : isRaisedD (.tuple xs) = false := by
  unfold isRaisedD
  split
  · rename_i a b c e
    injection e with e
    subst e
    exact absurd rfl h
  · rfl
theorem raised_fst {a b c : PyData} (h : ∀ z, a ≠ .str z) : isRaisedD (.tuple [a, b, c]) = false := by
  unfold isRaisedD
  split
  · rename_i a' b' c' e
    injection e with e
    injection e with e1 e2
    exact absurd e1 (h a')
  · rfl
def isAnswerD : PyData → Bool
  | .list xs => xs.all isItemD
  | d => isItemD d || isRaisedD d
mutual
def fit : PyData → Bool
  | .none => true
  | .bool _ => true
  | .int _ => true
  | .str z => decide (z.length ≤ 100000) && PyData.strOk z
  | .list xs => decide (xs.length ≤ 100000) && fitAll xs
  | .tuple xs => decide (xs.length ≤ 100000) && fitAll xs
  | .dict _ => false
def fitAll : List PyData → Bool
  | [] => true
  | d :: r => fit d && fitAll r
end
theorem fit_str {z : Str} (h : fit (.str z) = true) : z.length ≤ 100000 ∧ PyData.strOk z = true := by
  rw [fit, Bool.and_eq_true, decide_eq_true_eq] at h
  exact h
theorem fit_list {xs : List PyData} (h : fit (.list xs) = true) : xs.length ≤ 100000 ∧ fitAll xs = true := by
  rw [fit, Bool.and_eq_true, decide_eq_true_eq] at h
  exact h
theorem fit_tuple {xs : List PyData} (h : fit (.tuple xs) = true) : xs.length ≤ 100000 ∧ fitAll xs = true := by
  rw [fit, Bool.and_eq_true, decide_eq_true_eq] at h
  exact h
theorem fitAll_mem : ∀ {xs : List PyData} {d : PyData}, fitAll xs = true → d ∈ xs → fit d = true
  | x :: r, d, h, m => by
    rw [fitAll, Bool.and_eq_true] at h
    rcases List.mem_cons.mp m with rfl | m
    · exact h.1
    · exact fitAll_mem h.2 m
theorem fitAll_of : ∀ {xs : List PyData}, (∀ d ∈ xs, fit d = true) → fitAll xs = true
  | [], _ => by rw [fitAll]
  | x :: r, h => by rw [fitAll, h x (List.mem_cons_self ..), fitAll_of fun d m => h d (List.mem_cons_of_mem _ m)]; rfl
mutual
theorem fit_lay : ∀ {d : PyData}, fit d = true → d.canLay0 = true
  | .none, _ => by rw [PyData.canLay0]
  | .bool _, _ => by rw [PyData.canLay0]
  | .int _, _ => by rw [PyData.canLay0]
  | .str z, h => by rw [PyData.canLay0]; exact (fit_str h).2
  | .list xs, h => by rw [PyData.canLay0]; exact fitAll_lay (fit_list h).2
  | .tuple xs, h => by rw [PyData.canLay0]; exact fitAll_lay (fit_tuple h).2
  | .dict _, h => by simp [fit] at h
theorem fitAll_lay : ∀ {xs : List PyData}, fitAll xs = true → PyData.canLayAll0 xs = true
  | [], _ => by rw [PyData.canLayAll0]
  | x :: r, h => by
    rw [fitAll, Bool.and_eq_true] at h
    rw [PyData.canLayAll0, fit_lay h.1, fitAll_lay h.2]
    rfl
end
/-- a def of one value that only reads it -/
def spB1 (K : PySem.W.Frag) (f : PyData → Bool) : Sp := fun vs H Q _ => ∃ (v : V) (d : PyData), vs = [v] ∧ Dp K H v d ∧ fit d = true ∧ ∀ H', Evl.Ex H H' → Q (.bl (f d)) H'
/-- a value that is plain data, at most so deep -/
def Dv (K : PySem.W.Frag) (H : Hp) (m : Nat) (v : V) : Prop := ∃ d, Dp K H v d ∧ fit d = true ∧ d.depth ≤ m
theorem dv_non {K : PySem.W.Frag} {H : Hp} {m : Nat} : Dv K H m .non := ⟨_, .non, by rw [fit], by simp [PyData.depth]⟩
theorem dv_bl {K : PySem.W.Frag} {H : Hp} {m : Nat} {b : Bool} : Dv K H m (.bl b) := ⟨_, .bl b, by rw [fit], by simp [PyData.depth]⟩
theorem dv_int {K : PySem.W.Frag} {H : Hp} {m : Nat} {i : Int} : Dv K H m (.int i) := ⟨_, .int i, by rw [fit], by simp [PyData.depth]⟩
theorem dv_str {K : PySem.W.Frag} {H : Hp} {m : Nat} {z : Str} (h1 : z.length ≤ 100000) (h2 : PyData.strOk z = true) : Dv K H m (.str z) := ⟨_, .str z, by rw [fit, h2, Bool.and_true]; exact decide_eq_true h1, by simp [PyData.depth]⟩
theorem Bag.ex {b : Addr} {n : Nat} {H H' : Hp} (h : Bag b n H) (e : Evl.Ex H H') : Drw b n H H' := by
  obtain ⟨l, h1, h2⟩ := h
  refine ⟨fun a o ha => hid_of (e _ _ (hid_get ha)) (hid_ne ha), l, e _ _ h1, h2⟩
mutual
theorem Dp.mono {K : PySem.W.Frag} {H H' : Hp} (e : Evl.Ex H H') : ∀ {d : PyData} {v : V}, Dp K H v d → Dp K H' v d
  | _, _, .non => .non
  | _, _, .bl b => .bl b
  | _, _, .int i => .int i
  | _, _, .str x => .str x
  | _, _, .lst s r => .lst (Evl.ex_l e s) (DpAll.mono e r)
  | _, _, .tup s r => .tup (Evl.ex_t e s) (DpAll.mono e r)
theorem DpAll.mono {K : PySem.W.Frag} {H H' : Hp} (e : Evl.Ex H H') : ∀ {ds : List PyData} {vs : List V}, DpAll K H vs ds → DpAll K H' vs ds
  | _, _, .nil => .nil
  | _, _, .cons a r => .cons (Dp.mono e a) (DpAll.mono e r)
end
theorem DpAll.length {K : PySem.W.Frag} {H : Hp} : ∀ {vs : List V} {ds : List PyData}, DpAll K H vs ds → vs.length = ds.length
  | _, _, .nil => rfl
  | _, _, .cons _ r => congrArg Nat.succ (DpAll.length r)
theorem DpAll.get {K : PySem.W.Frag} {H : Hp} : ∀ {vs : List V} {ds : List PyData} {i : Nat} {v : V}, DpAll K H vs ds → vs[i]? = some v → ∃ d, ds[i]? = some d ∧ Dp K H v d
  | _, _, i, v, .nil, e => by simp at e
  | _, _, 0, v, .cons a r, e => by
    simp at e
    subst e
    exact ⟨_, rfl, a⟩
  | _, _, i + 1, v, .cons a r, e => by
    obtain ⟨d, h1, h2⟩ := DpAll.get (i := i) (v := v) r (by simpa using e)
    exact ⟨d, by simpa using h1, h2⟩
theorem Dv.mono {K : PySem.W.Frag} {H H' : Hp} {m n : Nat} {v : V} (e : Evl.Ex H H') (h : m ≤ n) (d : Dv K H m v) : Dv K H' n v := by
  obtain ⟨d, h1, h2, h3⟩ := d
  exact ⟨d, Dp.mono e h1, h2, Nat.le_trans h3 h⟩
theorem dvAll {K : PySem.W.Frag} {H : Hp} {m : Nat} : ∀ {xs : List V}, (∀ v ∈ xs, Dv K H m v) → ∃ ds, DpAll K H xs ds ∧ fitAll ds = true ∧ PyData.depthAll ds ≤ m
  | [], _ => ⟨[], .nil, by rw [fitAll], by simp [PyData.depthAll]⟩
  | v :: r, h => by
    obtain ⟨d, h1, h2, h3⟩ := h v (List.mem_cons_self ..)
    obtain ⟨ds, k1, k2, k3⟩ := dvAll (xs := r) fun u hu => h u (List.mem_cons_of_mem _ hu)
    refine ⟨d :: ds, .cons h1 k1, by rw [fitAll, h2, k2]; rfl, ?_⟩
    rw [PyData.depthAll]
    omega
theorem dv_lst {K : PySem.W.Frag} {H : Hp} {m : Nat} {a : Addr} {xs : List V} (s : SqL K H a xs) (h : ∀ v ∈ xs, Dv K H m v) (hl : xs.length ≤ 100000) : Dv K H (m + 1) (.ref a) := by
  obtain ⟨ds, k1, k2, k3⟩ := dvAll h
  refine ⟨.list ds, .lst s k1, by rw [fit, k2, Bool.and_true, ← DpAll.length k1]; exact decide_eq_true hl, ?_⟩
  rw [PyData.depth]
  omega
theorem dv_tup {K : PySem.W.Frag} {H : Hp} {m : Nat} {a : Addr} {xs : List V} (s : SqT K H a xs) (h : ∀ v ∈ xs, Dv K H m v) (hl : xs.length ≤ 100000) : Dv K H (m + 1) (.ref a) := by
  obtain ⟨ds, k1, k2, k3⟩ := dvAll h
  refine ⟨.tuple ds, .tup s k1, by rw [fit, k2, Bool.and_true, ← DpAll.length k1]; exact decide_eq_true hl, ?_⟩
  rw [PyData.depth]
  omega
theorem SqL.len {K : PySem.W.Frag} {H : Hp} {a : Addr} {xs : List V} {P : Program} {w : World} {h : Heap} (o : HOk P w H h) (s : SqL K H a xs) : xs.length ≤ sizeLine := by
  rcases s with (s | ⟨b, s⟩) | ⟨o, its, n, _, _, _, _, s, r⟩
  · exact (o a _ s).1
  · exact (o a _ s).2.1
  · rw [r.length, Array.length_toList]
    exact s

/-! ### the head's facts -/
theorem at_of {fa : List He.Fa} {fn : List He.DefD} {K : PySem.W.Frag} {mg : Str → Option Value} {h : Heap} {x : Str} {st : Stmt} (X : K.In h) (G : h.Ns mainGlobals mg) (c : He.SaysD fa fn K) (i j : Nat)
    (h1 : fn[i]? = some ⟨(x, none), x, x, defArgs st, defBody st, defScope st, [], []⟩ := by rfl) (h2 : fa[j]? = some (.glo x) := by rfl) : At K mg x st := by
  obtain ⟨fd, F⟩ := c.def_ i h1
  exact ⟨_, fd, F, He.glo_ok X G (c.fact j h2)⟩
theorem atD_of {fa : List He.Fa} {fn : List He.DefD} {K : PySem.W.Frag} {mg : Str → Option Value} {h : Heap} {x : Str} {st : Stmt} {dfl : List He.Dv} {kwd : List (Str × He.Dv)} (X : K.In h) (G : h.Ns mainGlobals mg) (c : He.SaysD fa fn K) (i j : Nat)
    (h1 : fn[i]? = some ⟨(x, none), x, x, defArgs st, defBody st, defScope st, dfl, kwd⟩ := by rfl) (h2 : fa[j]? = some (.glo x) := by rfl) : AtD K mg x st (dfl.map (He.Dv.v K)) (kwd.map fun q => (q.1, q.2.v K)) := by
  obtain ⟨fd, F⟩ := c.def_ i h1
  exact ⟨_, fd, F, He.glo_ok X G (c.fact j h2)⟩
theorem gs_of {fa : List He.Fa} {fn : List He.DefD} {K : PySem.W.Frag} {mg : Str → Option Value} {h : Heap} {x z : Str} (X : K.In h) (G : h.Ns mainGlobals mg) (c : He.SaysD fa fn K) (j : Nat) (h2 : fa[j]? = some (.str x z) := by rfl) : ∃ u, mg x = some u ∧ RelV (.str z) u := by
  obtain ⟨t, e⟩ := He.str_ok X G (c.fact j h2)
  exact ⟨_, e, t, rfl⟩
def blFa : List He.Fa := [.free "len", .free "abs", .free "max", .free "min", .free "isinstance", .free "range", .free "int", .free "str", .free "list", .free "tuple", .free "bool", .free "dict", .free "all", .free "any", .free "enumerate", .free "sorted", .free "repr"]
theorem bl_of {fa : List He.Fa} {fn : List He.DefD} {K : PySem.W.Frag} {mg : Str → Option Value} {h : Heap} (X : K.In h) (G : h.Ns mainGlobals mg) (c : He.SaysD (blFa ++ fa) fn K) : Bl mg where
  len := He.free_ok X G (c.fact 0 (f := .free "len") rfl)
  abs := He.free_ok X G (c.fact 1 (f := .free "abs") rfl)
  max := He.free_ok X G (c.fact 2 (f := .free "max") rfl)
  min := He.free_ok X G (c.fact 3 (f := .free "min") rfl)
  isinstance := He.free_ok X G (c.fact 4 (f := .free "isinstance") rfl)
  range := He.free_ok X G (c.fact 5 (f := .free "range") rfl)
  int := He.free_ok X G (c.fact 6 (f := .free "int") rfl)
  str := He.free_ok X G (c.fact 7 (f := .free "str") rfl)
  list := He.free_ok X G (c.fact 8 (f := .free "list") rfl)
  tuple := He.free_ok X G (c.fact 9 (f := .free "tuple") rfl)
  bool := He.free_ok X G (c.fact 10 (f := .free "bool") rfl)
  dict := He.free_ok X G (c.fact 11 (f := .free "dict") rfl)
  all := He.free_ok X G (c.fact 12 (f := .free "all") rfl)
  any := He.free_ok X G (c.fact 13 (f := .free "any") rfl)
  enumerate := He.free_ok X G (c.fact 14 (f := .free "enumerate") rfl)
  sorted := He.free_ok X G (c.fact 15 (f := .free "sorted") rfl)
  repr := He.free_ok X G (c.fact 16 (f := .free "repr") rfl)
end WP

set_option Elab.async false
set_option linter.all false
set_option maxRecDepth 100000
set_option maxHeartbeats 4000000
namespace WP
open PySem PySem.Spec PyProof.Rows L2
local macro_rules | `(tactic| walk_at "rd") => `(tactic| repeat (first
  | with_reducible refine r_seq ?_ | with_reducible refine r_var rfl ?_ | with_reducible refine r_c ?_ | with_reducible refine r_op ?_ | with_reducible refine r_cons ?_ | with_reducible refine r_nil ?_
  | with_reducible refine r_cb ?_ | with_reducible refine r_call ?_ | with_reducible refine r_test ?_ | with_reducible refine r_B ?_ | with_reducible refine r_bl ?_ | with_reducible refine r_asg ?_ | with_reducible refine r_asgS ?_
  | with_reducible refine r_ret ?_ | with_reducible refine r_drop ?_ | with_reducible refine r_ifS ?_ | with_reducible refine r_if ?_ | with_reducible refine r_and ?_ | with_reducible refine r_or ?_ | with_reducible refine r_not ?_
  | with_reducible refine r_andV ?_ | with_reducible refine r_orV ?_ | with_reducible refine r_notV ?_ | with_reducible refine r_chain ?_ | with_reducible refine r_sl ?_ | with_reducible refine r_nopart ?_ | with_reducible refine r_part ?_
  | with_reducible refine r_intO ?_ | with_reducible refine r_two ?_ | with_reducible refine r_m1 ?_ | with_reducible refine r_bm ?_ | with_reducible refine r_next ?_ | with_reducible refine r_for ?_ | with_reducible refine r_rng1 ?_ | with_reducible refine r_iList ?_ | with_reducible refine r_iAny ?_ | with_reducible refine r_lc ?_ | with_reducible refine r_yes ?_ | with_reducible refine r_gN ?_ | with_reducible refine r_par ?_ | with_reducible refine r_un ?_ | with_reducible refine r_brk ?_ | with_reducible refine r_cont ?_
  | with_reducible refine r_I0 ?_ | with_reducible refine r_U ?_ | with_reducible refine r_addI ?_ | with_reducible refine r_abs ?_ | with_reducible refine r_intI ?_ | with_reducible refine r_max2 ?_ | with_reducible refine r_min2 ?_
  | with_reducible refine r_ltI ?_ | with_reducible refine r_leI ?_ | with_reducible refine r_gtI ?_ | with_reducible refine r_geI ?_ | with_reducible refine r_isN_non ?_ | with_reducible refine r_isN_int ?_ | with_reducible refine r_isN_str ?_ | with_reducible refine r_isN_bl ?_ | with_reducible refine r_isN_ref ?_ | with_reducible refine r_isN ?_ | with_reducible refine r_isB ?_ | with_reducible refine r_isnotN_non ?_ | with_reducible refine r_isnotN_int ?_ | with_reducible refine r_isnotN_str ?_ | with_reducible refine r_isnotN_bl ?_ | with_reducible refine r_isnotN_ref ?_ | with_reducible refine r_isnotN ?_ | with_reducible refine r_isnotB ?_
  | with_reducible refine r_inS ?_ | with_reducible refine r_eqS rfl ?_ | with_reducible refine r_neS rfl ?_ | with_reducible refine r_lst ?_ | with_reducible refine r_tup ?_ | with_reducible refine iteT ?_ | with_reducible refine iteF ?_))
local macro_rules | `(tactic| walk_at "isi") => `(tactic| (first
  | with_reducible refine r_isi_non_int ?_
  | with_reducible refine r_isi_non_str ?_
  | with_reducible refine r_isi_non_list ?_
  | with_reducible refine r_isi_non_tuple ?_
  | with_reducible refine r_isi_non_bool ?_
  | with_reducible refine r_isi_bl_int ?_
  | with_reducible refine r_isi_bl_str ?_
  | with_reducible refine r_isi_bl_list ?_
  | with_reducible refine r_isi_bl_tuple ?_
  | with_reducible refine r_isi_bl_bool ?_
  | with_reducible refine r_isi_int_int ?_
  | with_reducible refine r_isi_int_str ?_
  | with_reducible refine r_isi_int_list ?_
  | with_reducible refine r_isi_int_tuple ?_
  | with_reducible refine r_isi_int_bool ?_
  | with_reducible refine r_isi_str_int ?_
  | with_reducible refine r_isi_str_str ?_
  | with_reducible refine r_isi_str_list ?_
  | with_reducible refine r_isi_str_tuple ?_
  | with_reducible refine r_isi_str_bool ?_
  | with_reducible refine r_isi_lst_int (SqL.of (by assumption)) ?_
  | with_reducible refine r_isi_lst_str (SqL.of (by assumption)) ?_
  | with_reducible refine r_isi_lst_list (SqL.of (by assumption)) ?_
  | with_reducible refine r_isi_lst_tuple (SqL.of (by assumption)) ?_
  | with_reducible refine r_isi_lst_bool (SqL.of (by assumption)) ?_
  | with_reducible refine r_isi_tup_int (SqT.of (by assumption)) ?_
  | with_reducible refine r_isi_tup_str (SqT.of (by assumption)) ?_
  | with_reducible refine r_isi_tup_list (SqT.of (by assumption)) ?_
  | with_reducible refine r_isi_tup_tuple (SqT.of (by assumption)) ?_
  | with_reducible refine r_isi_tup_bool (SqT.of (by assumption)) ?_))
local macro_rules | `(tactic| walk_at "rs") => `(tactic| (first
  | ((with_reducible refine iteTc ?hc ?_); (case hc => rfl)) | ((with_reducible refine iteFc ?hc ?_); (case hc => rfl))
  | walk_at "isi"
  | refine r_ixL (SqL.of (by assumption)) rfl ?_ | refine r_ixL (SqL.of upd_same) rfl ?_
  | refine r_I (C := fun _ j => 0 < j) (by first | decide | assumption | omega) ?_
  | refine r_mulI (.inl ⟨by decide, by decide⟩) ?_ | refine r_mulI (.inr ⟨by decide, by decide⟩) ?_ | refine r_mulI (.inr ⟨by omega, by omega⟩) ?_ | refine r_mulI (.inl ⟨by omega, by omega⟩) ?_
  | refine r_I (wide_div (b := 64) (by decide) (by decide) (by decide) (by decide)) ?_
  | refine r_I (C := CPow) ⟨by decide, by decide, by decide⟩ ?_
  | refine r_setL (by assumption) rfl ?_ | refine r_setL upd_same rfl ?_))
local macro_rules | `(tactic| walk_at "rx") => `(tactic| (walk_at "rd"; (repeat (walk_at "rs"; walk_at "rd"))))

def top (i : Nat) : Stmt := PySem.Challenge.pw_whatpasses_k05_items_and_answers.main.body.getD i (.Pass ⟨0, 0, 0, 0⟩)
abbrev s_is_number : Stmt := top 5
abbrev N_is_number : List Str := ["thing"]
theorem sc_is_number : FnScope N_is_number ["thing"] (defScope s_is_number) := ⟨rfl, rfl, rfl, by decide +kernel, rfl, by decide +kernel, by decide +kernel⟩
section
variable {P : Program} {w : World} {K : PySem.W.Frag} {mg : Str → Option Value} {base : Heap}
theorem c_is_number (F : At K mg "is_number" s_is_number) (B : Bl mg) : Cal P w K mg base 1 "is_number" (spB1 K isIntD) := by
  refine cal_of F sc_is_number (fun vs H Q E h => ?_) (fun _ _ _ _ _ _ us hl => match us, hl with | [_], _ => rfl) (fun f cdv A outer s H vs Q E hr h => ?_)
  · obtain ⟨v, d, rfl, _⟩ := h
    rfl
  · obtain ⟨v, d, rfl, hd, hf, k⟩ := h
    refine ⟨_, (pss_one (ps_ret (pe_and (pe_callB (call_isinstanceA K) rfl B.isinstance (by decide +kernel) (pa_cons (pv 0) (pa_cons (pe_bltn (v := .ty "int") rfl B.int (by decide +kernel) rfl) pa_nil))) (pe_one (pe_not (pe_callB (call_isinstanceA K) rfl B.isinstance (by decide +kernel) (pa_cons (pv 0) (pa_cons (pe_bltn (v := .ty "bool") rfl B.bool (by decide +kernel) rfl) pa_nil)))))))), ?_⟩
    cases hd with
    | lst s r => walk_at "rd"; refine r_isi_lst_int s ?_; walk_at "rx"; exact k _ (Evl.Ex.refl _)
    | tup s r => walk_at "rd"; refine r_isi_tup_int s ?_; walk_at "rx"; exact k _ (Evl.Ex.refl _)
    | _ => walk_at "rx"; exact k _ (Evl.Ex.refl _)
end

abbrev s_is_word : Stmt := top 6
abbrev N_is_word : List Str := ["thing", "most", "sign"]
theorem sc_is_word : FnScope N_is_word ["thing", "most"] (defScope s_is_word) := ⟨rfl, rfl, rfl, by decide +kernel, rfl, by decide +kernel, by decide +kernel⟩
def spWordP (K : PySem.W.Frag) : Sp := fun vs H Q _ => ∃ (v : V) (d : PyData) (m : Int), vs = [v, .int m] ∧ Dp K H v d ∧ fit d = true ∧ ∀ H', Evl.Ex H H' → Q (.bl (isWordD m d)) H'
theorem smallE : ("abcdefghijklmnopqrstuvwxyz" : Str).cps.toList = smallL := by decide +kernel
section
variable {P : Program} {w : World} {K : PySem.W.Frag} {mg : Str → Option Value} {base : Heap}
theorem b_is_word {f : Addr} {cdv : Value} {A : Around} {outer : List Env} {s : Shared} {H : Hp} {vs : List V} {Q : VK} {E : XK} (B : Bl mg) (g_SMALL : ∃ u, mg "SMALL" = some u ∧ RelV (.str "abcdefghijklmnopqrstuvwxyz") u)
    (hr : Room 0 (A.deeper (envOfC "is_word" (defScope s_is_word) s.heap.objs.size f cdv))) (h : spWordP K vs H Q E) :
    ∃ t, PSs (cxOf L2.CX0 P w K mg base N_is_word "is_word" (defScope s_is_word) f cdv A outer s H E).nox (defBody s_is_word) t ∧ t { nx := fun _ H' => Q .non H', rt := Q } (start N_is_word vs) H := by
  obtain ⟨v, d, m, rfl, hd, hf, k⟩ := h
  refine ⟨_, (pss_one (ps_ret (pe_and (pe_callB (call_isinstanceA K) rfl B.isinstance (by decide +kernel) (pa_cons (pv 0) (pa_cons (pe_bltn (v := .ty "str") rfl B.str (by decide +kernel) rfl) pa_nil))) (pe_and (pe_cmpR op_leA (pe_callB (call_lenA K) rfl B.len (by decide +kernel) (pa_cons (pv 0) pa_nil)) (pv 1) (nomark _)) (pe_one (pe_callB (call_allA K rfl) rfl B.all (by decide +kernel) (pa_cons (pe_lc (own := [("sign", 2)]) rfl sc_is_word.nd (pi_any K (pv 0)) (blkOk_by (N := N_is_word) (sc := defScope s_is_word) (by decide +kernel)) (fun _ _ _ _ _ => (pg_name (i := 2) sc_is_word.nd rfl (Or.inl rfl))) (fun _ _ _ _ _ => pts_nil) (fun _ _ _ _ _ => (pe_cmpR (op_inA K) (pv 2) (C8.pe_gc rfl g_SMALL) (by rfl)))) pa_nil))))))), ?_⟩
  cases hd with
  | lst s r => walk_at "rd"; refine r_isi_lst_str s ?_; walk_at "rx"; exact k _ (Evl.Ex.refl _)
  | tup s r => walk_at "rd"; refine r_isi_tup_str s ?_; walk_at "rx"; exact k _ (Evl.Ex.refl _)
  | str z =>
    have hz := (fit_str hf).1
    walk_at "rx"
    refine r_lenS (by rw [sizeLine_eq]; omega) ?_
    walk_at "rx"
    refine iteD (fun h1 => ?_) (fun h1 => ?_)
    · walk_at "rx"
      refine .inr (.inr ⟨z, rfl, ?_⟩)
      intro D hD
      refine lc_str (z := z) hD (fun c => .bl (decide (c ∈ smallL))) ?_ ?_ ?_ ?_
      · exact fun _ => rfl
      · omega
      · intro c hc H' e1 Q' q
        walk_at "rd"
        rw [smallE]
        exact q _ (Evl.Ex.refl _)
      · intro H' e1 hD2
        walk_at "rd"
        refine r_all (bs := z.cps.toList.map fun c => decide (c ∈ smallL)) (by rw [hD2, List.map_map]; rfl) ?_
        have := k _ e1
        rw [isWordD, isWordS, decide_eq_true h1, Bool.true_and] at this
        rw [List.all_map]
        exact this
    · walk_at "rx"
      have := k _ (Evl.Ex.refl _)
      rw [isWordD, isWordS, decide_eq_false h1, Bool.false_and] at this
      exact this
  | _ => walk_at "rx"; exact k _ (Evl.Ex.refl _)
theorem c_is_word_2 (F : AtD K mg "is_word" s_is_word [.int 30] []) (B : Bl mg) (g_SMALL : ∃ u, mg "SMALL" = some u ∧ RelV (.str "abcdefghijklmnopqrstuvwxyz") u) : CalD P w K mg base 1 "is_word" (spWordP K) [] := by
  refine calD_of (dvs := [.int 30]) F sc_is_word (fun vs H Q E h => ?_) (fun f cdv A outer s H vs Q E hr h => b_is_word B g_SMALL hr h) 2 1 (by simp) rfl (fun T kV doc pm an cdv ct us its h1 h2 => ?_)
  · obtain ⟨v, d, m, rfl, _⟩ := h
    rfl
  · match us, h1, its, h2 with
    | [_, _], _, [_], _ => exact ⟨_, rfl, rfl⟩
theorem c_is_word_1 (F : AtD K mg "is_word" s_is_word [.int 30] []) (B : Bl mg) (g_SMALL : ∃ u, mg "SMALL" = some u ∧ RelV (.str "abcdefghijklmnopqrstuvwxyz") u) : CalD P w K mg base 1 "is_word" (spWordP K) [.int 30] := by
  refine calD_of (dvs := [.int 30]) F sc_is_word (fun vs H Q E h => ?_) (fun f cdv A outer s H vs Q E hr h => b_is_word B g_SMALL hr h) 1 0 (by simp) rfl (fun T kV doc pm an cdv ct us its h1 h2 => ?_)
  · obtain ⟨v, d, m, rfl, _⟩ := h
    rfl
  · match us, h1, its, h2 with
    | [_], _, [_], _ => exact ⟨_, rfl, rfl⟩
end

abbrev s_is_item : Stmt := top 7
abbrev N_is_item : List Str := ["thing"]
theorem sc_is_item : FnScope N_is_item ["thing"] (defScope s_is_item) := ⟨rfl, rfl, rfl, by decide +kernel, rfl, by decide +kernel, by decide +kernel⟩
section
variable {P : Program} {w : World} {K : PySem.W.Frag} {mg : Str → Option Value} {base : Heap}
theorem c_is_item (F : At K mg "is_item" s_is_item) (B : Bl mg) (c_is_number : Cal P w K mg base 1 "is_number" (spB1 K isIntD)) (c_is_word_1 : CalD P w K mg base 1 "is_word" (spWordP K) [.int 30]) : Cal P w K mg base 2 "is_item" (spB1 K isItemD) := by
  refine cal_of F sc_is_item (fun vs H Q E h => ?_) (fun _ _ _ _ _ _ us hl => match us, hl with | [_], _ => rfl) (fun f cdv A outer s H vs Q E hr h => ?_)
  · obtain ⟨v, d, rfl, _⟩ := h
    rfl
  · obtain ⟨v, d, rfl, hd, hf, k⟩ := h
    refine ⟨_, (pss_one (ps_ret (pe_or (pe_cmpR op_isA (pv 0) pe_non (nomark _)) (pe_or (pe_cA c_is_number hr (by omega) rfl (pa_cons (pv 0) pa_nil)) (pe_one (pe_cD c_is_word_1 hr (by omega) rfl (pa_cons (pv 0) pa_nil))))))), ?_⟩
    cases hd with
    | non => walk_at "rx"; exact k _ (Evl.Ex.refl _)
    | int i =>
      walk_at "rx"
      refine ⟨_, _, rfl, .int i, hf, fun H1 e1 => ?_⟩
      walk_at "rx"
      exact k _ e1
    | bl b =>
      walk_at "rx"
      refine ⟨_, _, rfl, .bl b, hf, fun H1 e1 => ?_⟩
      walk_at "rx"
      refine ⟨_, _, _, rfl, .bl b, hf, fun H2 e2 => k _ (e1.trans e2)⟩
    | str z =>
      walk_at "rx"
      refine ⟨_, _, rfl, .str z, hf, fun H1 e1 => ?_⟩
      walk_at "rx"
      refine ⟨_, _, _, rfl, .str z, hf, fun H2 e2 => k _ (e1.trans e2)⟩
    | lst s r =>
      walk_at "rx"
      refine ⟨_, _, rfl, .lst s r, hf, fun H1 e1 => ?_⟩
      walk_at "rx"
      refine ⟨_, _, _, rfl, Dp.mono e1 (.lst s r), hf, fun H2 e2 => k _ (e1.trans e2)⟩
    | tup s r =>
      walk_at "rx"
      refine ⟨_, _, rfl, .tup s r, hf, fun H1 e1 => ?_⟩
      walk_at "rx"
      refine ⟨_, _, _, rfl, Dp.mono e1 (.tup s r), hf, fun H2 e2 => k _ (e1.trans e2)⟩
end

abbrev s_is_class_name : Stmt := top 3
abbrev N_is_class_name : List Str := ["thing", "sign"]
theorem sc_is_class_name : FnScope N_is_class_name ["thing"] (defScope s_is_class_name) := ⟨rfl, rfl, rfl, by decide +kernel, rfl, by decide +kernel, by decide +kernel⟩
theorem smallE2 : ("abcdefghijklmnopqrstuvwxyz" : Str).cps.toList = smallL := by decide +kernel
theorem capsE : ("ABCDEFGHIJKLMNOPQRSTUVWXYZ" : Str).cps.toList = capsL := by decide +kernel
section
variable {P : Program} {w : World} {K : PySem.W.Frag} {mg : Str → Option Value} {base : Heap}
theorem c_is_class_name (F : At K mg "is_class_name" s_is_class_name) (B : Bl mg) (g_SMALL : ∃ u, mg "SMALL" = some u ∧ RelV (.str "abcdefghijklmnopqrstuvwxyz") u) (g_CAPITALS : ∃ u, mg "CAPITALS" = some u ∧ RelV (.str "ABCDEFGHIJKLMNOPQRSTUVWXYZ") u) : Cal P w K mg base 1 "is_class_name" (spB1 K isClsD) := by
  refine cal_of F sc_is_class_name (fun vs H Q E h => ?_) (fun _ _ _ _ _ _ us hl => match us, hl with | [_], _ => rfl) (fun f cdv A outer s H vs Q E hr h => ?_)
  · obtain ⟨v, d, rfl, _⟩ := h
    rfl
  · obtain ⟨v, d, rfl, hd, hf, k⟩ := h
    refine ⟨_, (pss_cons (ps_if (PW.pt (pw_or (pt_not (pt_val (pe_callB (call_isinstanceA K) rfl B.isinstance (by decide +kernel) (pa_cons (pv 0) (pa_cons (pe_bltn (v := .ty "str") rfl B.str (by decide +kernel) rfl) pa_nil))))) (pw_or1 (pt_not (pt_chain op_leA op_leA pe_int (pe_callB (call_lenA K) rfl B.len (by decide +kernel) (pa_cons (pv 0) pa_nil)) pe_int)))))
   (pss_one (ps_ret pe_bl))
   pss_nil)
  (pss_one (ps_ret (pe_and (pe_cmpR (op_inA K) (pe_ix (ix_A K) (pv 0) pe_int (fun _ _ => rfl)) (C8.pe_gc rfl g_CAPITALS) (by rfl)) (pe_one (pe_callB (call_allA K rfl) rfl B.all (by decide +kernel) (pa_cons (pe_lc (own := [("sign", 1)]) rfl sc_is_class_name.nd (pi_any K (pv 0)) (blkOk_by (N := N_is_class_name) (sc := defScope s_is_class_name) (by decide +kernel)) (fun _ _ _ _ _ => (pg_name (i := 1) sc_is_class_name.nd rfl (Or.inl rfl))) (fun _ _ _ _ _ => pts_nil) (fun _ _ _ _ _ => (pe_or (pe_cmpR (op_inA K) (pv 1) (C8.pe_gc rfl g_SMALL) (by rfl)) (pe_one (pe_cmpR (op_inA K) (pv 1) (C8.pe_gc rfl g_CAPITALS) (by rfl)))))) pa_nil))))))), ?_⟩
    cases hd with
    | lst s r => walk_at "rd"; refine r_isi_lst_str s ?_; walk_at "rx"; exact k _ (Evl.Ex.refl _)
    | tup s r => walk_at "rd"; refine r_isi_tup_str s ?_; walk_at "rx"; exact k _ (Evl.Ex.refl _)
    | str z =>
      have hz := (fit_str hf).1
      have hzl : z.cps.toList.length = z.length := by simp [Str.length]
      walk_at "rx"
      refine r_lenS (by rw [sizeLine_eq]; omega) ?_
      walk_at "rx"
      rw [isClsD, isClsS] at k
      cases hc : z.cps.toList with
      | nil =>
        rw [hc] at k hzl
        refine iteN (by rw [← hzl]; decide) ?_
        walk_at "rx"
        exact k _ (Evl.Ex.refl _)
      | cons c r =>
        rw [hc] at k hzl
        rw [List.length_cons] at hzl
        dsimp only at k
        refine iteY (by omega) ?_
        walk_at "rx"
        refine iteND (fun h1 => ?_) (fun h1 => ?_)
        · walk_at "rx"
          have := k _ (Evl.Ex.refl _)
          rw [decide_eq_false (by omega)] at this
          exact this
        · walk_at "rx"
          replace k : ∀ H', Evl.Ex H H' → Q (.bl (decide (c ∈ capsL) && (c :: r).all fun d => decide (d ∈ smallL) || decide (d ∈ capsL))) H' := fun H' e => by
            have := k H' e
            rw [decide_eq_true (show r.length ≤ 11 by omega)] at this
            exact this
          refine r_ixS (c := c) (by rw [sizeLine_eq]; omega) (by rw [hc]; exact atI_nat (j := 0) rfl) ?_
          walk_at "rx"
          rw [capsE]
          refine iteD (fun h2 => ?_) (fun h2 => ?_)
          · walk_at "rx"
            refine .inr (.inr ⟨z, rfl, ?_⟩)
            intro D hD
            refine lc_str (z := z) hD (fun c => .bl (decide (c ∈ smallL) || decide (c ∈ capsL))) ?_ ?_ ?_ ?_
            · exact fun _ => rfl
            · omega
            · intro c' hc' H' e1 Q' q
              walk_at "rd"
              rw [smallE2]
              refine iteD (fun h3 => ?_) (fun h3 => ?_)
              · rw [decide_eq_true h3] at q
                exact q _ (Evl.Ex.refl _)
              · rw [decide_eq_false h3] at q
                walk_at "rd"
                rw [capsE]
                exact q _ (Evl.Ex.refl _)
            · intro H' e1 hD2
              walk_at "rd"
              refine r_all (bs := z.cps.toList.map fun c => decide (c ∈ smallL) || decide (c ∈ capsL)) (by rw [hD2, List.map_map]; rfl) ?_
              have := k _ e1
              rw [decide_eq_true h2, Bool.true_and] at this
              rw [List.all_map, hc]
              exact this
          · walk_at "rx"
            have := k _ (Evl.Ex.refl _)
            rw [decide_eq_false h2, Bool.false_and] at this
            exact this
    | _ => walk_at "rx"; exact k _ (Evl.Ex.refl _)
end

abbrev s_is_raised : Stmt := top 8
abbrev N_is_raised : List Str := ["thing"]
theorem sc_is_raised : FnScope N_is_raised ["thing"] (defScope s_is_raised) := ⟨rfl, rfl, rfl, by decide +kernel, rfl, by decide +kernel, by decide +kernel⟩
section
variable {P : Program} {w : World} {K : PySem.W.Frag} {mg : Str → Option Value} {base : Heap}
theorem c_is_raised (F : At K mg "is_raised" s_is_raised) (B : Bl mg) (c_is_class_name : Cal P w K mg base 1 "is_class_name" (spB1 K isClsD)) : Cal P w K mg base 2 "is_raised" (spB1 K isRaisedD) := by
  refine cal_of F sc_is_raised (fun vs H Q E h => ?_) (fun _ _ _ _ _ _ us hl => match us, hl with | [_], _ => rfl) (fun f cdv A outer s H vs Q E hr h => ?_)
  · obtain ⟨v, d, rfl, _⟩ := h
    rfl
  · obtain ⟨v, d, rfl, hd, hf, k⟩ := h
    refine ⟨_, (pss_cons (ps_if (PW.pt (pw_or (pt_not (pt_val (pe_callB (call_isinstanceA K) rfl B.isinstance (by decide +kernel) (pa_cons (pv 0) (pa_cons (pe_bltn (v := .ty "tuple") rfl B.tuple (by decide +kernel) rfl) pa_nil))))) (pw_or1 (pt_cmpR (op_neA K hr.units) (pe_callB (call_lenA K) rfl B.len (by decide +kernel) (pa_cons (pv 0) pa_nil)) pe_int (nomark _)))))
   (pss_one (ps_ret pe_bl))
   pss_nil)
  (pss_cons (ps_if (PW.pt (pw_or (pt_not (pt_val (pe_callB (call_isinstanceA K) rfl B.isinstance (by decide +kernel) (pa_cons (pe_ix (ix_A K) (pv 0) pe_int (fun _ _ => rfl)) (pa_cons (pe_bltn (v := .ty "str") rfl B.str (by decide +kernel) rfl) pa_nil))))) (pw_or1 (pt_cmpR (op_neA K hr.units) (pe_ix (ix_A K) (pv 0) pe_int (fun _ _ => rfl)) pe_str (nomark _)))))
   (pss_one (ps_ret pe_bl))
   pss_nil)
  (pss_one (ps_ret (pe_and (pe_cA c_is_class_name hr (by omega) rfl (pa_cons (pe_ix (ix_A K) (pv 0) pe_int (fun _ _ => rfl)) pa_nil)) (pe_one (pe_or (pe_cmpR op_isA (pe_ix (ix_A K) (pv 0) pe_int (fun _ _ => rfl)) pe_non (nomark _)) (pe_one (pe_cA c_is_class_name hr (by omega) rfl (pa_cons (pe_ix (ix_A K) (pv 0) pe_int (fun _ _ => rfl)) pa_nil)))))))))), ?_⟩
    cases hd with
    | lst s r => walk_at "rd"; refine r_isi_lst_tuple s ?_; walk_at "rx"; exact k _ (Evl.Ex.refl _)
    | @tup a xs ds s r =>
      walk_at "rd"
      refine r_isi_tup_tuple s ?_
      walk_at "rx"
      refine r_lenT s ?_
      walk_at "rx"
      have hl := DpAll.length r
      refine iteND (fun h1 => ?_) (fun h1 => ?_)
      · walk_at "rx"
        have := k _ (Evl.Ex.refl _)
        rw [raised_len (by intro e; exact h1 (by rw [hl, e]; rfl))] at this
        exact this
      · have h3 : ds.length = 3 := by
          have : (xs.length : Int) = 3 := by injection h1
          omega
        obtain ⟨d1, d2, d3, rfl⟩ : ∃ d1 d2 d3, ds = [d1, d2, d3] := by
          match ds, h3 with
          | [a, b, c], _ => exact ⟨a, b, c, rfl⟩
        have hfa := (fit_tuple hf).2
        cases r with
        | @cons v1 _ _ _ p1 r =>
        cases r with
        | @cons v2 _ _ _ p2 r =>
        cases r with
        | @cons v3 _ _ _ p3 r =>
        cases r with
        | nil =>
        walk_at "rx"
        refine r_ixT s (atI_nat (j := 0) rfl) ?_
        walk_at "rx"
        cases p1 with
        | str z =>
          walk_at "rx"
          refine r_ixT s (atI_nat (j := 0) rfl) ?_
          walk_at "rx"
          have k2 : ∀ H', Evl.Ex H H' → Q (.bl (decide (z = "raises") && (isClsD d2 && (isNonD d3 || isClsD d3)))) H' := k
          refine iteND (fun h4 => ?_) (fun h4 => ?_)
          · walk_at "rx"
            have := k2 _ (Evl.Ex.refl _)
            rw [decide_eq_false (fun e => h4 (by rw [e])), Bool.false_and] at this
            exact this
          · have h4 : z = "raises" := by injection h4
            rw [decide_eq_true h4, Bool.true_and] at k2
            walk_at "rx"
            refine r_ixT s (atI_nat (j := 1) rfl) ?_
            walk_at "rx"
            refine ⟨_, _, rfl, p2, fitAll_mem hfa (by simp), fun H1 e1 => ?_⟩
            walk_at "rx"
            refine iteB (fun h5 => ?_) (fun h5 => ?_)
            · rw [h5, Bool.true_and] at k2
              walk_at "rx"
              refine r_ixT (Evl.ex_t e1 s) (atI_nat (j := 2) rfl) ?_
              cases p3 with
              | non => walk_at "rx"; exact k2 _ e1
              | _ =>
                walk_at "rx"
                refine r_ixT (Evl.ex_t e1 s) (atI_nat (j := 2) rfl) ?_
                walk_at "rx"
                refine ⟨_, _, rfl, Dp.mono e1 (by first | exact .bl _ | exact .int _ | exact .str _ | exact .lst (by assumption) (by assumption) | exact .tup (by assumption) (by assumption)), fitAll_mem hfa (by simp), fun H2 e2 => ?_⟩
                exact k2 _ (e1.trans e2)
            · rw [h5, Bool.false_and] at k2
              walk_at "rx"
              exact k2 _ e1
        | lst s2 r2 =>
          refine r_isi_lst_str s2 ?_
          walk_at "rx"
          have := k _ (Evl.Ex.refl _)
          rw [raised_fst (by intro z e; cases e)] at this
          exact this
        | tup s2 r2 =>
          refine r_isi_tup_str s2 ?_
          walk_at "rx"
          have := k _ (Evl.Ex.refl _)
          rw [raised_fst (by intro z e; cases e)] at this
          exact this
        | _ =>
          walk_at "rx"
          have := k _ (Evl.Ex.refl _)
          rw [raised_fst (by intro z e; cases e)] at this
          exact this
    | _ => walk_at "rx"; exact k _ (Evl.Ex.refl _)
end

abbrev s_is_answer : Stmt := top 9
abbrev N_is_answer : List Str := ["thing", "item"]
theorem sc_is_answer : FnScope N_is_answer ["thing"] (defScope s_is_answer) := ⟨rfl, rfl, rfl, by decide +kernel, rfl, by decide +kernel, by decide +kernel⟩
section
variable {P : Program} {w : World} {K : PySem.W.Frag} {mg : Str → Option Value} {base : Heap}
theorem DpAll.mem {H : Hp} {vs : List V} {ds : List PyData} (h : DpAll K H vs ds) {v : V} (hv : v ∈ vs) : ∃ d ∈ ds, Dp K H v d := by
  obtain ⟨i, hi, e⟩ := List.mem_iff_getElem.mp hv
  obtain ⟨d, h1, h2⟩ := DpAll.get h (i := i) (by rw [List.getElem?_eq_getElem hi, e])
  exact ⟨d, List.mem_of_getElem? h1, h2⟩
theorem c_is_answer (F : At K mg "is_answer" s_is_answer) (B : Bl mg) (c_is_item : Cal P w K mg base 2 "is_item" (spB1 K isItemD)) (c_is_raised : Cal P w K mg base 2 "is_raised" (spB1 K isRaisedD)) : Cal P w K mg base 3 "is_answer" (spB1 K isAnswerD) := by
  refine cal_of F sc_is_answer (fun vs H Q E h => ?_) (fun _ _ _ _ _ _ us hl => match us, hl with | [_], _ => rfl) (fun f cdv A outer s H vs Q E hr h => ?_)
  · obtain ⟨v, d, rfl, _⟩ := h
    rfl
  · obtain ⟨v, d, rfl, hd, hf, k⟩ := h
    refine ⟨_, (pss_cons (ps_if (pt_val (pe_callB (call_isinstanceA K) rfl B.isinstance (by decide +kernel) (pa_cons (pv 0) (pa_cons (pe_bltn (v := .ty "list") rfl B.list (by decide +kernel) rfl) pa_nil))))
   (pss_one (ps_ret (pe_callB (call_allA K rfl) rfl B.all (by decide +kernel) (pa_cons (pe_lc (own := [("item", 1)]) rfl sc_is_answer.nd (pi_any K (pv 0)) (blkOk_by (N := N_is_answer) (sc := defScope s_is_answer) (by decide +kernel)) (fun _ _ _ _ _ => (pg_name (i := 1) sc_is_answer.nd rfl (Or.inl rfl))) (fun _ _ _ _ _ => pts_nil) (fun _ _ _ _ _ => (pe_cA c_is_item hr (by omega) rfl (pa_cons (pv 1) pa_nil)))) pa_nil))))
   pss_nil)
  (pss_one (ps_ret (pe_or (pe_cA c_is_item hr (by omega) rfl (pa_cons (pv 0) pa_nil)) (pe_one (pe_cA c_is_raised hr (by omega) rfl (pa_cons (pv 0) pa_nil))))))), ?_⟩
    cases hd with
    | @lst a xs ds s r =>
      walk_at "rd"
      refine r_isi_lst_list s ?_
      walk_at "rx"
      have hl := DpAll.length r
      have hfl := fit_list hf
      refine .inl ⟨a, rfl, ⟨_, s⟩, ?_⟩
      intro D hD
      refine lc_pure walk_list hD (fun i => xs.getD i .non) (fun i => .bl (isItemD (ds.getD i .none))) ?_ (fun _ e => Evl.ex_l e s) ?_ (by omega) ?_ ?_
      · rintro i H x H' hi _ ⟨e, hx⟩
        exact ⟨e, by rw [List.getD_eq_getElem?_getD, hx]; rfl⟩
      · exact fun _ => rfl
      · intro i hi H' e1 Q' q
        walk_at "rd"
        have hx : xs[i]? = some (xs.getD i .non) := by rw [List.getD_eq_getElem?_getD, List.getElem?_eq_getElem hi]; rfl
        obtain ⟨d, h1, h2⟩ := DpAll.get r hx
        refine ⟨_, d, rfl, Dp.mono e1 h2, fitAll_mem hfl.2 (List.mem_of_getElem? h1), fun H2 e2 => ?_⟩
        have := q _ e2
        rw [List.getD_eq_getElem?_getD (a := PyData.none), h1] at this
        exact this
      · intro H' e1 hD2
        walk_at "rd"
        refine r_all (bs := ds.map isItemD) ?_ ?_
        · rw [hD2]
          congr 2
          refine List.ext_getElem (by simp [hl]) fun i h1 h2 => ?_
          simp at h1 h2
          simp [List.getElem?_eq_getElem h2]
        · rw [List.all_map]
          exact k _ e1
    | tup s r =>
      walk_at "rd"
      refine r_isi_tup_list s ?_
      walk_at "rx"
      refine ⟨_, _, rfl, .tup s r, hf, fun H1 e1 => ?_⟩
      walk_at "rx"
      refine ⟨_, _, rfl, Dp.mono e1 (.tup s r), hf, fun H2 e2 => k _ (e1.trans e2)⟩
    | non =>
      walk_at "rx"
      refine ⟨_, _, rfl, .non, hf, fun H1 e1 => ?_⟩
      walk_at "rx"
      exact k _ e1
    | int i =>
      walk_at "rx"
      refine ⟨_, _, rfl, .int i, hf, fun H1 e1 => ?_⟩
      walk_at "rx"
      exact k _ e1
    | bl b =>
      walk_at "rx"
      refine ⟨_, _, rfl, .bl b, hf, fun H1 e1 => ?_⟩
      walk_at "rx"
      refine ⟨_, _, rfl, .bl b, hf, fun H2 e2 => k _ (e1.trans e2)⟩
    | str z =>
      walk_at "rx"
      refine ⟨_, _, rfl, .str z, hf, fun H1 e1 => ?_⟩
      have k2 : ∀ H', Evl.Ex H H' → Q (.bl (isWordS z 30 || false)) H' := k
      have e : isItemD (.str z) = isWordS z 30 := rfl
      rw [e]
      walk_at "rx"
      refine iteB (fun h5 => ?_) (fun h5 => ?_)
      · rw [h5] at k2
        walk_at "rx"
        exact k2 _ e1
      · rw [h5] at k2
        walk_at "rx"
        refine ⟨_, _, rfl, .str z, hf, fun H2 e2 => k2 _ (e1.trans e2)⟩
end

end WP

set_option Elab.async false
set_option linter.all false
set_option maxRecDepth 100000
set_option maxHeartbeats 4000000
namespace WP
open PySem PySem.Spec PyProof.Rows L2
local macro_rules | `(tactic| walk_at "rd") => `(tactic| repeat (first
  | with_reducible refine r_seq ?_ | with_reducible refine r_var rfl ?_ | with_reducible refine r_c ?_ | with_reducible refine r_op ?_ | with_reducible refine r_cons ?_ | with_reducible refine r_nil ?_
  | with_reducible refine r_cb ?_ | with_reducible refine r_call ?_ | with_reducible refine r_test ?_ | with_reducible refine r_B ?_ | with_reducible refine r_bl ?_ | with_reducible refine r_asg ?_ | with_reducible refine r_asgS ?_
  | with_reducible refine r_ret ?_ | with_reducible refine r_drop ?_ | with_reducible refine r_ifS ?_ | with_reducible refine r_if ?_ | with_reducible refine r_and ?_ | with_reducible refine r_or ?_ | with_reducible refine r_not ?_
  | with_reducible refine r_andV ?_ | with_reducible refine r_orV ?_ | with_reducible refine r_notV ?_ | with_reducible refine r_chain ?_ | with_reducible refine r_sl ?_ | with_reducible refine r_nopart ?_ | with_reducible refine r_part ?_
  | with_reducible refine r_intO ?_ | with_reducible refine r_two ?_ | with_reducible refine r_m1 ?_ | with_reducible refine r_bm ?_ | with_reducible refine r_next ?_ | with_reducible refine r_for ?_ | with_reducible refine r_rng1 ?_ | with_reducible refine r_iList ?_ | with_reducible refine r_iAny ?_ | with_reducible refine r_lc ?_ | with_reducible refine r_yes ?_ | with_reducible refine r_gN ?_ | with_reducible refine r_par ?_ | with_reducible refine r_un ?_ | with_reducible refine r_brk ?_ | with_reducible refine r_cont ?_
  | with_reducible refine r_I0 ?_ | with_reducible refine r_U ?_ | with_reducible refine r_addI ?_ | with_reducible refine r_abs ?_ | with_reducible refine r_intI ?_ | with_reducible refine r_max2 ?_ | with_reducible refine r_min2 ?_
  | with_reducible refine r_ltI ?_ | with_reducible refine r_leI ?_ | with_reducible refine r_gtI ?_ | with_reducible refine r_geI ?_ | with_reducible refine r_isN_non ?_ | with_reducible refine r_isN_int ?_ | with_reducible refine r_isN_str ?_ | with_reducible refine r_isN_bl ?_ | with_reducible refine r_isN_ref ?_ | with_reducible refine r_isN ?_ | with_reducible refine r_isB ?_ | with_reducible refine r_isnotN_non ?_ | with_reducible refine r_isnotN_int ?_ | with_reducible refine r_isnotN_str ?_ | with_reducible refine r_isnotN_bl ?_ | with_reducible refine r_isnotN_ref ?_ | with_reducible refine r_isnotN ?_ | with_reducible refine r_isnotB ?_
  | with_reducible refine r_inS ?_ | with_reducible refine r_eqS rfl ?_ | with_reducible refine r_neS rfl ?_ | with_reducible refine r_lst ?_ | with_reducible refine r_tup ?_ | with_reducible refine iteT ?_ | with_reducible refine iteF ?_))
local macro_rules | `(tactic| walk_at "isi") => `(tactic| (first
  | with_reducible refine r_isi_non_int ?_
  | with_reducible refine r_isi_non_str ?_
  | with_reducible refine r_isi_non_list ?_
  | with_reducible refine r_isi_non_tuple ?_
  | with_reducible refine r_isi_non_bool ?_
  | with_reducible refine r_isi_bl_int ?_
  | with_reducible refine r_isi_bl_str ?_
  | with_reducible refine r_isi_bl_list ?_
  | with_reducible refine r_isi_bl_tuple ?_
  | with_reducible refine r_isi_bl_bool ?_
  | with_reducible refine r_isi_int_int ?_
  | with_reducible refine r_isi_int_str ?_
  | with_reducible refine r_isi_int_list ?_
  | with_reducible refine r_isi_int_tuple ?_
  | with_reducible refine r_isi_int_bool ?_
  | with_reducible refine r_isi_str_int ?_
  | with_reducible refine r_isi_str_str ?_
  | with_reducible refine r_isi_str_list ?_
  | with_reducible refine r_isi_str_tuple ?_
  | with_reducible refine r_isi_str_bool ?_
  | with_reducible refine r_isi_lst_int (SqL.of (by assumption)) ?_
  | with_reducible refine r_isi_lst_str (SqL.of (by assumption)) ?_
  | with_reducible refine r_isi_lst_list (SqL.of (by assumption)) ?_
  | with_reducible refine r_isi_lst_tuple (SqL.of (by assumption)) ?_
  | with_reducible refine r_isi_lst_bool (SqL.of (by assumption)) ?_
  | with_reducible refine r_isi_tup_int (SqT.of (by assumption)) ?_
  | with_reducible refine r_isi_tup_str (SqT.of (by assumption)) ?_
  | with_reducible refine r_isi_tup_list (SqT.of (by assumption)) ?_
  | with_reducible refine r_isi_tup_tuple (SqT.of (by assumption)) ?_
  | with_reducible refine r_isi_tup_bool (SqT.of (by assumption)) ?_))
local macro_rules | `(tactic| walk_at "rs") => `(tactic| (first
  | ((with_reducible refine iteTc ?hc ?_); (case hc => rfl)) | ((with_reducible refine iteFc ?hc ?_); (case hc => rfl))
  | walk_at "isi"
  | refine r_ixL (SqL.of (by assumption)) rfl ?_ | refine r_ixL (SqL.of upd_same) rfl ?_
  | refine r_I (C := fun _ j => 0 < j) (by first | decide | assumption | omega) ?_
  | refine r_mulI (.inl ⟨by decide, by decide⟩) ?_ | refine r_mulI (.inr ⟨by decide, by decide⟩) ?_ | refine r_mulI (.inr ⟨by omega, by omega⟩) ?_ | refine r_mulI (.inl ⟨by omega, by omega⟩) ?_
  | refine r_I (wide_div (b := 64) (by decide) (by decide) (by decide) (by decide)) ?_
  | refine r_I (C := CPow) ⟨by decide, by decide, by decide⟩ ?_
  | refine r_setL (by assumption) rfl ?_ | refine r_setL upd_same rfl ?_))
local macro_rules | `(tactic| walk_at "rx") => `(tactic| (walk_at "rd"; (repeat (walk_at "rs"; walk_at "rd"))))

abbrev s_law_is_integer : Stmt := top 18
abbrev N_law_is_integer : List Str := ["_law_thing"]
theorem sc_law_is_integer : FnScope N_law_is_integer ["_law_thing"] (defScope s_law_is_integer) := ⟨rfl, rfl, rfl, by decide +kernel, rfl, by decide +kernel, by decide +kernel⟩
section
variable {P : Program} {w : World} {K : PySem.W.Frag} {mg : Str → Option Value} {base : Heap}
theorem c_law_is_integer_ (F : At K mg "_law_is_integer" s_law_is_integer) (B : Bl mg) : Cal P w K mg base 1 "_law_is_integer" (spB1 K isIntD) := by
  refine cal_of F sc_law_is_integer (fun vs H Q E h => ?_) (fun _ _ _ _ _ _ us hl => match us, hl with | [_], _ => rfl) (fun f cdv A outer s H vs Q E hr h => ?_)
  · obtain ⟨v, d, rfl, _⟩ := h
    rfl
  · obtain ⟨v, d, rfl, hd, hf, k⟩ := h
    refine ⟨_, (pss_one (ps_ret (pe_and (pe_callB (call_isinstanceA K) rfl B.isinstance (by decide +kernel) (pa_cons (pv 0) (pa_cons (pe_bltn (v := .ty "int") rfl B.int (by decide +kernel) rfl) pa_nil))) (pe_one (pe_not (pe_callB (call_isinstanceA K) rfl B.isinstance (by decide +kernel) (pa_cons (pv 0) (pa_cons (pe_bltn (v := .ty "bool") rfl B.bool (by decide +kernel) rfl) pa_nil)))))))), ?_⟩
    cases hd with
    | lst s r => walk_at "rd"; refine r_isi_lst_int s ?_; walk_at "rx"; exact k _ (Evl.Ex.refl _)
    | tup s r => walk_at "rd"; refine r_isi_tup_int s ?_; walk_at "rx"; exact k _ (Evl.Ex.refl _)
    | _ => walk_at "rx"; exact k _ (Evl.Ex.refl _)
end

abbrev s_law_is_word : Stmt := top 19
abbrev N_law_is_word : List Str := ["_law_thing", "_law_most", "_law_sign"]
theorem sc_law_is_word : FnScope N_law_is_word ["_law_thing", "_law_most"] (defScope s_law_is_word) := ⟨rfl, rfl, rfl, by decide +kernel, rfl, by decide +kernel, by decide +kernel⟩
theorem smallE3 : ("abcdefghijklmnopqrstuvwxyz" : Str).cps.toList = smallL := by decide +kernel
def spLWord (K : PySem.W.Frag) : Sp := fun vs H Q _ => ∃ (v : V) (d : PyData) (m : Int), vs = [v, .int m] ∧ Dp K H v d ∧ fit d = true ∧ ∀ H', Evl.Ex H H' → Q (.bl (isWordD m d)) H'
section
variable {P : Program} {w : World} {K : PySem.W.Frag} {mg : Str → Option Value} {base : Heap}
theorem c_law_is_word_ (F : At K mg "_law_is_word" s_law_is_word) (B : Bl mg) : Cal P w K mg base 1 "_law_is_word" (spLWord K) := by
  refine cal_of F sc_law_is_word (fun vs H Q E h => ?_) (fun _ _ _ _ _ _ us hl => match us, hl with | [_, _], _ => rfl) (fun f cdv A outer s H vs Q E hr h => ?_)
  · obtain ⟨v, d, m, rfl, _⟩ := h
    rfl
  · obtain ⟨v, d, m, rfl, hd, hf, k⟩ := h
    refine ⟨_, (pss_cons (ps_if (PW.pt (pw_or (pt_not (pt_val (pe_callB (call_isinstanceA K) rfl B.isinstance (by decide +kernel) (pa_cons (pv 0) (pa_cons (pe_bltn (v := .ty "str") rfl B.str (by decide +kernel) rfl) pa_nil))))) (pw_or1 (pt_cmpR op_gtA (pe_callB (call_lenA K) rfl B.len (by decide +kernel) (pa_cons (pv 0) pa_nil)) (pv 1) (nomark _)))))
   (pss_one (ps_ret pe_bl))
   pss_nil)
  (pss_one (ps_ret (pe_callB (call_allA K rfl) rfl B.all (by decide +kernel) (pa_cons (pe_lc (own := [("_law_sign", 2)]) rfl sc_law_is_word.nd (pi_any K (pv 0)) (blkOk_by (N := N_law_is_word) (sc := defScope s_law_is_word) (by decide +kernel)) (fun _ _ _ _ _ => (pg_name (i := 2) sc_law_is_word.nd rfl (Or.inl rfl))) (fun _ _ _ _ _ => pts_nil) (fun _ _ _ _ _ => (pe_cmpR (op_inA K) (pv 2) pe_str (by rfl)))) pa_nil))))), ?_⟩
    cases hd with
    | lst s r => walk_at "rd"; refine r_isi_lst_str s ?_; walk_at "rx"; exact k _ (Evl.Ex.refl _)
    | tup s r => walk_at "rd"; refine r_isi_tup_str s ?_; walk_at "rx"; exact k _ (Evl.Ex.refl _)
    | str z =>
      have hz := (fit_str hf).1
      walk_at "rx"
      refine r_lenS (by rw [sizeLine_eq]; omega) ?_
      walk_at "rx"
      rw [isWordD, isWordS] at k
      refine iteD (fun h1 => ?_) (fun h1 => ?_)
      · walk_at "rx"
        have := k _ (Evl.Ex.refl _)
        rw [decide_eq_false (by omega), Bool.false_and] at this
        exact this
      · walk_at "rx"
        rw [decide_eq_true (show (z.length : Int) ≤ m by omega), Bool.true_and] at k
        refine .inr (.inr ⟨z, rfl, ?_⟩)
        intro D hD
        refine lc_str (z := z) hD (fun c => .bl (decide (c ∈ smallL))) ?_ ?_ ?_ ?_
        · exact fun _ => rfl
        · omega
        · intro c hc H' e1 Q' q
          walk_at "rd"
          rw [smallE3]
          exact q _ (Evl.Ex.refl _)
        · intro H' e1 hD2
          walk_at "rd"
          refine r_all (bs := z.cps.toList.map fun c => decide (c ∈ smallL)) (by rw [hD2, List.map_map]; rfl) ?_
          rw [List.all_map]
          exact k _ e1
    | _ => walk_at "rx"; exact k _ (Evl.Ex.refl _)
end

abbrev s_law_is_item : Stmt := top 20
abbrev N_law_is_item : List Str := ["_law_thing"]
theorem sc_law_is_item : FnScope N_law_is_item ["_law_thing"] (defScope s_law_is_item) := ⟨rfl, rfl, rfl, by decide +kernel, rfl, by decide +kernel, by decide +kernel⟩
section
variable {P : Program} {w : World} {K : PySem.W.Frag} {mg : Str → Option Value} {base : Heap}
theorem c_law_is_item_ (F : At K mg "_law_is_item" s_law_is_item) (B : Bl mg) (c_law_is_integer : Cal P w K mg base 1 "_law_is_integer" (spB1 K isIntD)) (c_law_is_word : Cal P w K mg base 1 "_law_is_word" (spLWord K)) : Cal P w K mg base 2 "_law_is_item" (spB1 K isItemD) := by
  refine cal_of F sc_law_is_item (fun vs H Q E h => ?_) (fun _ _ _ _ _ _ us hl => match us, hl with | [_], _ => rfl) (fun f cdv A outer s H vs Q E hr h => ?_)
  · obtain ⟨v, d, rfl, _⟩ := h
    rfl
  · obtain ⟨v, d, rfl, hd, hf, k⟩ := h
    refine ⟨_, (pss_one (ps_ret (pe_or (pe_cmpR op_isA (pv 0) pe_non (nomark _)) (pe_or (pe_cA c_law_is_integer hr (by omega) rfl (pa_cons (pv 0) pa_nil)) (pe_one (pe_cA c_law_is_word hr (by omega) rfl (pa_cons (pv 0) (pa_cons pe_int pa_nil)))))))), ?_⟩
    have hd0 := hd
    cases hd with
    | non => walk_at "rx"; exact k _ (Evl.Ex.refl _)
    | int i =>
      walk_at "rx"
      refine ⟨_, _, rfl, hd0, hf, fun H1 e1 => ?_⟩
      walk_at "rx"
      exact k _ e1
    | _ =>
      walk_at "rx"
      refine ⟨_, _, rfl, hd0, hf, fun H1 e1 => ?_⟩
      walk_at "rx"
      refine ⟨_, _, _, rfl, Dp.mono e1 hd0, hf, fun H2 e2 => k _ (e1.trans e2)⟩
end

abbrev s_law_is_class : Stmt := top 21
abbrev N_law_is_class : List Str := ["_law_thing", "_law_letters", "_law_sign"]
theorem sc_law_is_class : FnScope N_law_is_class ["_law_thing"] (defScope s_law_is_class) := ⟨rfl, rfl, rfl, by decide +kernel, rfl, by decide +kernel, by decide +kernel⟩
theorem lettersE : ((("ABCDEFGHIJKLMNOPQRSTUVWXYZ" : Str) ++ ("abcdefghijklmnopqrstuvwxyz" : Str)) : Str).cps.toList = capsL ++ smallL := by decide +kernel
theorem lettersE2 : (cutS ((("ABCDEFGHIJKLMNOPQRSTUVWXYZ" : Str) ++ ("abcdefghijklmnopqrstuvwxyz" : Str)) : Str) none (some 26)).cps.toList = capsL := by decide +kernel
theorem lettersM (c : Nat) : decide (c ∈ capsL ++ smallL) = (decide (c ∈ smallL) || decide (c ∈ capsL)) := by
  rw [Bool.or_comm, ← Bool.decide_or]
  exact decide_eq_decide.mpr List.mem_append
section
variable {P : Program} {w : World} {K : PySem.W.Frag} {mg : Str → Option Value} {base : Heap}
theorem c_law_is_class_ (F : At K mg "_law_is_class" s_law_is_class) (B : Bl mg) : Cal P w K mg base 1 "_law_is_class" (spB1 K isClsD) := by
  refine cal_of F sc_law_is_class (fun vs H Q E h => ?_) (fun _ _ _ _ _ _ us hl => match us, hl with | [_], _ => rfl) (fun f cdv A outer s H vs Q E hr h => ?_)
  · obtain ⟨v, d, rfl, _⟩ := h
    rfl
  · obtain ⟨v, d, rfl, hd, hf, k⟩ := h
    refine ⟨_, (pss_cons (ps_set (i := 1) sc_law_is_class.nd rfl (Or.inr rfl) (pe_op (op_addA K) pe_str pe_str))
  (pss_cons (ps_if (PW.pt (pw_or (pt_not (pt_val (pe_callB (call_isinstanceA K) rfl B.isinstance (by decide +kernel) (pa_cons (pv 0) (pa_cons (pe_bltn (v := .ty "str") rfl B.str (by decide +kernel) rfl) pa_nil))))) (pw_or (pt_cmpR (op_eqA K hr.units) (pe_callB (call_lenA K) rfl B.len (by decide +kernel) (pa_cons (pv 0) pa_nil)) pe_int (nomark _)) (pw_or1 (pt_cmpR op_gtA (pe_callB (call_lenA K) rfl B.len (by decide +kernel) (pa_cons (pv 0) pa_nil)) pe_int (nomark _))))))
   (pss_one (ps_ret pe_bl))
   pss_nil)
  (pss_one (ps_ret (pe_and (pe_cmpR (op_inA K) (pe_ix (ix_A K) (pv 0) pe_int (fun _ _ => rfl)) (pe_slice (sl_A K) (pv 1) po_none (po_some pe_int)) (by rfl)) (pe_one (pe_callB (call_allA K rfl) rfl B.all (by decide +kernel) (pa_cons (pe_lc (own := [("_law_sign", 2)]) rfl sc_law_is_class.nd (pi_any K (pv 0)) (blkOk_by (N := N_law_is_class) (sc := defScope s_law_is_class) (by decide +kernel)) (fun _ _ _ _ _ => (pg_name (i := 2) sc_law_is_class.nd rfl (Or.inl rfl))) (fun _ _ _ _ _ => pts_nil) (fun _ _ _ _ _ => (pe_cmpR (op_inA K) (pv 2) (pv 1) (by rfl)))) pa_nil)))))))), ?_⟩
    walk_at "rd"
    refine r_addS (by decide +kernel) ?_
    generalize hL : (("ABCDEFGHIJKLMNOPQRSTUVWXYZ" : Str) ++ ("abcdefghijklmnopqrstuvwxyz" : Str) : Str) = L
    have hL1 : L.cps.toList = capsL ++ smallL := by rw [← hL]; exact lettersE
    have hL2 : (cutS L none (some 26)).cps.toList = capsL := by rw [← hL]; exact lettersE2
    have hL3 : L.length = 52 := by rw [← hL]; decide +kernel
    clear hL
    cases hd with
    | lst s r => walk_at "rd"; refine r_isi_lst_str s ?_; walk_at "rx"; exact k _ (Evl.Ex.refl _)
    | tup s r => walk_at "rd"; refine r_isi_tup_str s ?_; walk_at "rx"; exact k _ (Evl.Ex.refl _)
    | str z =>
      have hz := (fit_str hf).1
      have hzl : z.cps.toList.length = z.length := by simp [Str.length]
      walk_at "rx"
      refine r_lenS (by rw [sizeLine_eq]; omega) ?_
      walk_at "rx"
      rw [isClsD, isClsS] at k
      cases hc : z.cps.toList with
      | nil =>
        rw [hc] at k hzl
        refine iteY (by rw [← hzl]; rfl) ?_
        walk_at "rx"
        exact k _ (Evl.Ex.refl _)
      | cons c r =>
        rw [hc] at k hzl
        rw [List.length_cons] at hzl
        dsimp only at k
        refine iteN (by rw [← hzl]; intro e; injection e with e; omega) ?_
        walk_at "rx"
        refine r_lenS (by rw [sizeLine_eq]; omega) ?_
        walk_at "rx"
        refine iteD (fun h1 => ?_) (fun h1 => ?_)
        · walk_at "rx"
          have := k _ (Evl.Ex.refl _)
          rw [decide_eq_false (by omega)] at this
          exact this
        · walk_at "rx"
          replace k : ∀ H', Evl.Ex H H' → Q (.bl (decide (c ∈ capsL) && (c :: r).all fun d => decide (d ∈ smallL) || decide (d ∈ capsL))) H' := fun H' e => by
            have := k H' e
            rw [decide_eq_true (show r.length ≤ 11 by omega)] at this
            exact this
          refine r_ixS (c := c) (by rw [sizeLine_eq]; omega) (by rw [hc]; exact atI_nat (j := 0) rfl) ?_
          walk_at "rx"
          refine r_slS (by rw [sizeLine_eq]; omega) ?_
          walk_at "rx"
          rw [hL2]
          refine iteD (fun h2 => ?_) (fun h2 => ?_)
          · walk_at "rx"
            refine .inr (.inr ⟨z, rfl, ?_⟩)
            intro D hD
            refine lc_str (z := z) hD (fun c => .bl (decide (c ∈ smallL) || decide (c ∈ capsL))) ?_ ?_ ?_ ?_
            · exact fun _ => rfl
            · omega
            · intro c' hc' H' e1 Q' q
              walk_at "rd"
              rw [hL1, lettersM]
              exact q _ (Evl.Ex.refl _)
            · intro H' e1 hD2
              walk_at "rd"
              refine r_all (bs := z.cps.toList.map fun c => decide (c ∈ smallL) || decide (c ∈ capsL)) (by rw [hD2, List.map_map]; rfl) ?_
              have := k _ e1
              rw [decide_eq_true h2, Bool.true_and] at this
              rw [List.all_map, hc]
              exact this
          · walk_at "rx"
            have := k _ (Evl.Ex.refl _)
            rw [decide_eq_false h2, Bool.false_and] at this
            exact this
    | _ => walk_at "rx"; exact k _ (Evl.Ex.refl _)
end

abbrev s_law_is_answer : Stmt := top 22
abbrev N_law_is_answer : List Str := ["_law_thing", "_law_item"]
theorem sc_law_is_answer : FnScope N_law_is_answer ["_law_thing"] (defScope s_law_is_answer) := ⟨rfl, rfl, rfl, by decide +kernel, rfl, by decide +kernel, by decide +kernel⟩
section
variable {P : Program} {w : World} {K : PySem.W.Frag} {mg : Str → Option Value} {base : Heap}
theorem c_law_is_answer_ (F : At K mg "_law_is_answer" s_law_is_answer) (B : Bl mg) (c_law_is_item : Cal P w K mg base 2 "_law_is_item" (spB1 K isItemD)) (c_law_is_class : Cal P w K mg base 1 "_law_is_class" (spB1 K isClsD)) : Cal P w K mg base 3 "_law_is_answer" (spB1 K isAnswerD) := by
  refine cal_of F sc_law_is_answer (fun vs H Q E h => ?_) (fun _ _ _ _ _ _ us hl => match us, hl with | [_], _ => rfl) (fun f cdv A outer s H vs Q E hr h => ?_)
  · obtain ⟨v, d, rfl, _⟩ := h
    rfl
  · obtain ⟨v, d, rfl, hd, hf, k⟩ := h
    refine ⟨_, (pss_cons (ps_if (pt_val (pe_callB (call_isinstanceA K) rfl B.isinstance (by decide +kernel) (pa_cons (pv 0) (pa_cons (pe_bltn (v := .ty "list") rfl B.list (by decide +kernel) rfl) pa_nil))))
   (pss_one (ps_ret (pe_callB (call_allA K rfl) rfl B.all (by decide +kernel) (pa_cons (pe_lc (own := [("_law_item", 1)]) rfl sc_law_is_answer.nd (pi_any K (pv 0)) (blkOk_by (N := N_law_is_answer) (sc := defScope s_law_is_answer) (by decide +kernel)) (fun _ _ _ _ _ => (pg_name (i := 1) sc_law_is_answer.nd rfl (Or.inl rfl))) (fun _ _ _ _ _ => pts_nil) (fun _ _ _ _ _ => (pe_cA c_law_is_item hr (by omega) rfl (pa_cons (pv 1) pa_nil)))) pa_nil))))
   pss_nil)
  (pss_cons (ps_if (pt_not (pt_val (pe_callB (call_isinstanceA K) rfl B.isinstance (by decide +kernel) (pa_cons (pv 0) (pa_cons (pe_bltn (v := .ty "tuple") rfl B.tuple (by decide +kernel) rfl) pa_nil)))))
   (pss_one (ps_ret (pe_cA c_law_is_item hr (by omega) rfl (pa_cons (pv 0) pa_nil))))
   pss_nil)
  (pss_cons (ps_if (PW.pt (pw_or (pt_cmpR (op_neA K hr.units) (pe_callB (call_lenA K) rfl B.len (by decide +kernel) (pa_cons (pv 0) pa_nil)) pe_int (nomark _)) (pw_or (pt_not (pt_val (pe_callB (call_isinstanceA K) rfl B.isinstance (by decide +kernel) (pa_cons (pe_ix (ix_A K) (pv 0) pe_int (fun _ _ => rfl)) (pa_cons (pe_bltn (v := .ty "str") rfl B.str (by decide +kernel) rfl) pa_nil))))) (pw_or1 (pt_cmpR (op_neA K hr.units) (pe_ix (ix_A K) (pv 0) pe_int (fun _ _ => rfl)) pe_str (nomark _))))))
   (pss_one (ps_ret pe_bl))
   pss_nil)
  (pss_one (ps_ret (pe_and (pe_cA c_law_is_class hr (by omega) rfl (pa_cons (pe_ix (ix_A K) (pv 0) pe_int (fun _ _ => rfl)) pa_nil)) (pe_one (pe_or (pe_cmpR op_isA (pe_ix (ix_A K) (pv 0) pe_int (fun _ _ => rfl)) pe_non (nomark _)) (pe_one (pe_cA c_law_is_class hr (by omega) rfl (pa_cons (pe_ix (ix_A K) (pv 0) pe_int (fun _ _ => rfl)) pa_nil))))))))))), ?_⟩
    have hd0 := hd
    cases hd with
    | @lst a xs ds s r =>
      walk_at "rd"
      refine r_isi_lst_list s ?_
      walk_at "rx"
      have hl := DpAll.length r
      have hfl := fit_list hf
      refine .inl ⟨a, rfl, ⟨_, s⟩, ?_⟩
      intro D hD
      refine lc_pure walk_list hD (fun i => xs.getD i .non) (fun i => .bl (isItemD (ds.getD i .none))) ?_ (fun _ e => Evl.ex_l e s) ?_ (by omega) ?_ ?_
      · rintro i H x H' hi _ ⟨e, hx⟩
        exact ⟨e, by rw [List.getD_eq_getElem?_getD, hx]; rfl⟩
      · exact fun _ => rfl
      · intro i hi H' e1 Q' q
        walk_at "rd"
        have hx : xs[i]? = some (xs.getD i .non) := by rw [List.getD_eq_getElem?_getD, List.getElem?_eq_getElem hi]; rfl
        obtain ⟨d, h1, h2⟩ := DpAll.get r hx
        refine ⟨_, d, rfl, Dp.mono e1 h2, fitAll_mem hfl.2 (List.mem_of_getElem? h1), fun H2 e2 => ?_⟩
        have := q _ e2
        rw [List.getD_eq_getElem?_getD (a := PyData.none), h1] at this
        exact this
      · intro H' e1 hD2
        walk_at "rd"
        refine r_all (bs := ds.map isItemD) ?_ ?_
        · rw [hD2]
          congr 2
          refine List.ext_getElem (by simp [hl]) fun i h1 h2 => ?_
          simp at h1 h2
          simp [List.getElem?_eq_getElem h2]
        · rw [List.all_map]
          exact k _ e1
    | @tup a xs ds s r =>
      walk_at "rd"
      refine r_isi_tup_list s ?_
      walk_at "rx"
      refine r_isi_tup_tuple s ?_
      walk_at "rx"
      refine r_lenT s ?_
      walk_at "rx"
      have hl := DpAll.length r
      have k2 : ∀ H', Evl.Ex H H' → Q (.bl (isRaisedD (.tuple ds))) H' := k
      refine iteND (fun h1 => ?_) (fun h1 => ?_)
      · walk_at "rx"
        have := k2 _ (Evl.Ex.refl _)
        rw [raised_len (by intro e; exact h1 (by rw [hl, e]; rfl))] at this
        exact this
      · have h3 : ds.length = 3 := by
          have : (xs.length : Int) = 3 := by injection h1
          omega
        obtain ⟨d1, d2, d3, rfl⟩ : ∃ d1 d2 d3, ds = [d1, d2, d3] := by
          match ds, h3 with
          | [a, b, c], _ => exact ⟨a, b, c, rfl⟩
        have hfa := (fit_tuple hf).2
        cases r with
        | @cons v1 _ _ _ p1 r =>
        cases r with
        | @cons v2 _ _ _ p2 r =>
        cases r with
        | @cons v3 _ _ _ p3 r =>
        cases r with
        | nil =>
        walk_at "rx"
        refine r_ixT s (atI_nat (j := 0) rfl) ?_
        walk_at "rx"
        cases p1 with
        | str z =>
          walk_at "rx"
          refine r_ixT s (atI_nat (j := 0) rfl) ?_
          walk_at "rx"
          replace k2 : ∀ H', Evl.Ex H H' → Q (.bl (decide (z = "raises") && (isClsD d2 && (isNonD d3 || isClsD d3)))) H' := k2
          refine iteND (fun h4 => ?_) (fun h4 => ?_)
          · walk_at "rx"
            have := k2 _ (Evl.Ex.refl _)
            rw [decide_eq_false (fun e => h4 (by rw [e])), Bool.false_and] at this
            exact this
          · have h4 : z = "raises" := by injection h4
            rw [decide_eq_true h4, Bool.true_and] at k2
            walk_at "rx"
            refine r_ixT s (atI_nat (j := 1) rfl) ?_
            walk_at "rx"
            refine ⟨_, _, rfl, p2, fitAll_mem hfa (by simp), fun H1 e1 => ?_⟩
            walk_at "rx"
            refine iteB (fun h5 => ?_) (fun h5 => ?_)
            · rw [h5, Bool.true_and] at k2
              walk_at "rx"
              refine r_ixT (Evl.ex_t e1 s) (atI_nat (j := 2) rfl) ?_
              have p30 := p3
              cases p3 with
              | non => walk_at "rx"; exact k2 _ e1
              | _ =>
                walk_at "rx"
                refine r_ixT (Evl.ex_t e1 s) (atI_nat (j := 2) rfl) ?_
                walk_at "rx"
                refine ⟨_, _, rfl, Dp.mono e1 p30, fitAll_mem hfa (by simp), fun H2 e2 => ?_⟩
                exact k2 _ (e1.trans e2)
            · rw [h5, Bool.false_and] at k2
              walk_at "rx"
              exact k2 _ e1
        | lst s2 r2 =>
          refine r_isi_lst_str s2 ?_
          walk_at "rx"
          have := k2 _ (Evl.Ex.refl _)
          rw [raised_fst (by intro z e; cases e)] at this
          exact this
        | tup s2 r2 =>
          refine r_isi_tup_str s2 ?_
          walk_at "rx"
          have := k2 _ (Evl.Ex.refl _)
          rw [raised_fst (by intro z e; cases e)] at this
          exact this
        | _ =>
          walk_at "rx"
          have := k2 _ (Evl.Ex.refl _)
          rw [raised_fst (by intro z e; cases e)] at this
          exact this
    | str z =>
      walk_at "rx"
      refine ⟨_, _, rfl, hd0, hf, fun H1 e1 => ?_⟩
      have k2 : ∀ H', Evl.Ex H H' → Q (.bl (isWordS z 30 || false)) H' := k
      rw [Bool.or_false] at k2
      exact k2 _ e1
    | _ =>
      walk_at "rx"
      refine ⟨_, _, rfl, hd0, hf, fun H1 e1 => ?_⟩
      exact k _ e1
end

end WP

set_option Elab.async false
set_option linter.all false
set_option maxRecDepth 100000
set_option maxHeartbeats 4000000
namespace WP
open PySem PySem.Spec PyProof.Rows L2
local macro_rules | `(tactic| walk_at "rd") => `(tactic| repeat (first
  | with_reducible refine r_seq ?_ | with_reducible refine r_var rfl ?_ | with_reducible refine r_c ?_ | with_reducible refine r_op ?_ | with_reducible refine r_cons ?_ | with_reducible refine r_nil ?_
  | with_reducible refine r_cb ?_ | with_reducible refine r_call ?_ | with_reducible refine r_test ?_ | with_reducible refine r_B ?_ | with_reducible refine r_bl ?_ | with_reducible refine r_asg ?_ | with_reducible refine r_asgS ?_
  | with_reducible refine r_ret ?_ | with_reducible refine r_drop ?_ | with_reducible refine r_ifS ?_ | with_reducible refine r_if ?_ | with_reducible refine r_and ?_ | with_reducible refine r_or ?_ | with_reducible refine r_not ?_
  | with_reducible refine r_andV ?_ | with_reducible refine r_orV ?_ | with_reducible refine r_notV ?_ | with_reducible refine r_chain ?_ | with_reducible refine r_sl ?_ | with_reducible refine r_nopart ?_ | with_reducible refine r_part ?_
  | with_reducible refine r_intO ?_ | with_reducible refine r_two ?_ | with_reducible refine r_m1 ?_ | with_reducible refine r_bm ?_ | with_reducible refine r_next ?_ | with_reducible refine r_for ?_ | with_reducible refine r_rng1 ?_ | with_reducible refine r_iList ?_ | with_reducible refine r_iAny ?_ | with_reducible refine r_lc ?_ | with_reducible refine r_yes ?_ | with_reducible refine r_gN ?_ | with_reducible refine r_par ?_ | with_reducible refine r_un ?_ | with_reducible refine r_brk ?_ | with_reducible refine r_cont ?_
  | with_reducible refine r_I0 ?_ | with_reducible refine r_U ?_ | with_reducible refine r_addI ?_ | with_reducible refine r_abs ?_ | with_reducible refine r_intI ?_ | with_reducible refine r_max2 ?_ | with_reducible refine r_min2 ?_
  | with_reducible refine r_ltI ?_ | with_reducible refine r_leI ?_ | with_reducible refine r_gtI ?_ | with_reducible refine r_geI ?_ | with_reducible refine r_isN_non ?_ | with_reducible refine r_isN_int ?_ | with_reducible refine r_isN_str ?_ | with_reducible refine r_isN_bl ?_ | with_reducible refine r_isN_ref ?_ | with_reducible refine r_isN ?_ | with_reducible refine r_isB ?_ | with_reducible refine r_isnotN_non ?_ | with_reducible refine r_isnotN_int ?_ | with_reducible refine r_isnotN_str ?_ | with_reducible refine r_isnotN_bl ?_ | with_reducible refine r_isnotN_ref ?_ | with_reducible refine r_isnotN ?_ | with_reducible refine r_isnotB ?_
  | with_reducible refine r_inS ?_ | with_reducible refine r_eqS rfl ?_ | with_reducible refine r_neS rfl ?_ | with_reducible refine r_lst ?_ | with_reducible refine r_tup ?_ | with_reducible refine iteT ?_ | with_reducible refine iteF ?_))
local macro_rules | `(tactic| walk_at "isi") => `(tactic| (first
  | with_reducible refine r_isi_non_int ?_
  | with_reducible refine r_isi_non_str ?_
  | with_reducible refine r_isi_non_list ?_
  | with_reducible refine r_isi_non_tuple ?_
  | with_reducible refine r_isi_non_bool ?_
  | with_reducible refine r_isi_bl_int ?_
  | with_reducible refine r_isi_bl_str ?_
  | with_reducible refine r_isi_bl_list ?_
  | with_reducible refine r_isi_bl_tuple ?_
  | with_reducible refine r_isi_bl_bool ?_
  | with_reducible refine r_isi_int_int ?_
  | with_reducible refine r_isi_int_str ?_
  | with_reducible refine r_isi_int_list ?_
  | with_reducible refine r_isi_int_tuple ?_
  | with_reducible refine r_isi_int_bool ?_
  | with_reducible refine r_isi_str_int ?_
  | with_reducible refine r_isi_str_str ?_
  | with_reducible refine r_isi_str_list ?_
  | with_reducible refine r_isi_str_tuple ?_
  | with_reducible refine r_isi_str_bool ?_
  | with_reducible refine r_isi_lst_int (SqL.of (by assumption)) ?_
  | with_reducible refine r_isi_lst_str (SqL.of (by assumption)) ?_
  | with_reducible refine r_isi_lst_list (SqL.of (by assumption)) ?_
  | with_reducible refine r_isi_lst_tuple (SqL.of (by assumption)) ?_
  | with_reducible refine r_isi_lst_bool (SqL.of (by assumption)) ?_
  | with_reducible refine r_isi_tup_int (SqT.of (by assumption)) ?_
  | with_reducible refine r_isi_tup_str (SqT.of (by assumption)) ?_
  | with_reducible refine r_isi_tup_list (SqT.of (by assumption)) ?_
  | with_reducible refine r_isi_tup_tuple (SqT.of (by assumption)) ?_
  | with_reducible refine r_isi_tup_bool (SqT.of (by assumption)) ?_))
local macro_rules | `(tactic| walk_at "rs") => `(tactic| (first
  | ((with_reducible refine iteTc ?hc ?_); (case hc => rfl)) | ((with_reducible refine iteFc ?hc ?_); (case hc => rfl))
  | walk_at "isi"
  | refine r_ixL (SqL.of (by assumption)) rfl ?_ | refine r_ixL (SqL.of upd_same) rfl ?_
  | refine r_I (C := fun _ j => 0 < j) (by first | decide | assumption | omega) ?_
  | refine r_mulI (.inl ⟨by decide, by decide⟩) ?_ | refine r_mulI (.inr ⟨by decide, by decide⟩) ?_ | refine r_mulI (.inr ⟨by omega, by omega⟩) ?_ | refine r_mulI (.inl ⟨by omega, by omega⟩) ?_
  | refine r_I (wide_div (b := 64) (by decide) (by decide) (by decide) (by decide)) ?_
  | refine r_I (C := CPow) ⟨by decide, by decide, by decide⟩ ?_
  | refine r_setL (by assumption) rfl ?_ | refine r_setL upd_same rfl ?_))
local macro_rules | `(tactic| walk_at "rx") => `(tactic| (walk_at "rd"; (repeat (walk_at "rs"; walk_at "rd"))))

/-! ### the draws -/
def spTake : Sp := fun vs H Q _ => ∃ (b : Addr) (m : Int) (n : Nat), vs = [.ref b, .int m] ∧ Bag b n H ∧ n < 1000000000000 ∧ 0 < m ∧ m < 2 ^ 200 ∧
  ∀ (d : Int) (H' : Hp), 0 ≤ d → d < m → Drw b (n + 1) H H' → Q (.int d) H'
abbrev s_law_take : Stmt := top 11
abbrev N_law_take : List Str := ["_law_bag_here", "_law_many", "_law_digit", "_law_mixed"]
theorem sc_law_take : FnScope N_law_take ["_law_bag_here", "_law_many"] (defScope s_law_take) := ⟨rfl, rfl, rfl, by decide +kernel, rfl, by decide +kernel, by decide +kernel⟩
section
variable {P : Program} {w : World} {K : PySem.W.Frag} {mg : Str → Option Value} {base : Heap}
theorem c_take (F : At K mg "_law_take" s_law_take) (B : Bl mg) : Cal P w K mg base 1 "_law_take" spTake := by
  refine cal_of F sc_law_take (fun vs H Q E h => ?_) (fun _ _ _ _ _ _ us hl => match us, hl with | [_, _], _ => rfl) (fun f cdv A outer s H vs Q E hr h => ?_)
  · obtain ⟨b, m, n, rfl, _⟩ := h
    rfl
  · obtain ⟨b, m, n, rfl, ⟨l, hb, x, y, z, rfl, hy0, hy1, hz0, hz1⟩, hn, hm0, hm1, k⟩ := h
    refine ⟨_, (pss_cons (ps_if (pt_cmpR op_gtA (pe_ix (ix_A K) (pv 0) pe_int (fun _ _ => rfl)) pe_int (nomark _))
   (pss_cons (ps_set (i := 2) sc_law_take.nd rfl (Or.inl rfl) (pe_op op_mod (pe_callTy call_intA rfl B.int (by decide +kernel) (pa_cons (pe_ix (ix_A K) (pv 0) pe_int (fun _ _ => rfl)) pa_nil)) (pv 1)))
  (pss_cons (ps_asg (pe_op op_fdivW (pe_ix (ix_A K) (pv 0) pe_int (fun _ _ => rfl)) (pv 1)) (pg_sub (pv 0) pe_int set_list))
  (pss_one (ps_ret (pv 2)))))
   pss_nil)
  (pss_cons (ps_asg (pe_op (op_addA K) (pe_ix (ix_A K) (pv 0) pe_int (fun _ _ => rfl)) pe_int) (pg_sub (pv 0) pe_int set_list))
  (pss_cons (ps_set (i := 3) sc_law_take.nd rfl (Or.inl rfl) (pe_op op_mod (pe_callTy call_intA rfl B.int (by decide +kernel) (pa_cons (pe_op op_mulA (pe_op (op_addA K) (pe_ix (ix_A K) (pv 0) pe_int (fun _ _ => rfl)) (pe_op op_mulA pe_int (pe_ix (ix_A K) (pv 0) pe_int (fun _ _ => rfl)))) (pe_op (op_addA K) (pe_ix (ix_A K) (pv 0) pe_int (fun _ _ => rfl)) pe_int)) pa_nil)) pe_int))
  (pss_one (ps_ret (pe_op op_mod (pe_callTy call_intA rfl B.int (by decide +kernel) (pa_cons (pe_op op_fdivW (pe_op op_mod (pe_callTy call_intA rfl B.int (by decide +kernel) (pa_cons (pe_op op_pow (pe_op (op_addA K) (pv 3) (pe_op op_mulA pe_int (pe_ix (ix_A K) (pv 0) pe_int (fun _ _ => rfl)))) pe_int) pa_nil)) pe_int) pe_int) pa_nil)) (pv 1))))))), ?_⟩
    walk_at "rx"
    refine iteD (fun hx => ?_) (fun hx => ?_)
    · walk_at "rx"
      refine r_I (wide_div (b := 200) hm0 (by omega) (by decide) (by decide)) ?_
      walk_at "rx"
      exact k _ _ (Int.emod_nonneg _ (by omega)) (Int.emod_lt_of_pos _ hm0) ⟨by rw [hid_bag]; exact Evl.Ex.refl _, _, upd_same, _, y, z, rfl, hy0, hy1, hz0, by omega⟩
    · walk_at "rx"
      have h2 : 0 ≤ (y + 40009 * (z + 1)) * (y + 7919) % 2147483647 := Int.emod_nonneg _ (by decide)
      have h3 : (y + 40009 * (z + 1)) * (y + 7919) % 2147483647 < 2147483647 := Int.emod_lt_of_pos _ (by decide)
      refine r_I (C := CPow) ⟨by decide, by decide, ?_⟩ ?_
      · revert h2 h3
        generalize (y + 40009 * (z + 1)) * (y + 7919) % 2147483647 = q
        intro h2 h3
        omega
      walk_at "rx"
      exact k _ _ (Int.emod_nonneg _ (by omega)) (Int.emod_lt_of_pos _ hm0) ⟨by rw [hid_bag]; exact Evl.Ex.refl _, _, upd_same, x, y, z + 1, rfl, hy0, hy1, by omega, by omega⟩

/-! one of a list, a tuple, a text -/
def spOf (K : PySem.W.Frag) : Sp := fun vs H Q _ => ∃ (b : Addr) (v : V) (n : Nat), vs = [.ref b, v] ∧ Bag b n H ∧ n < 1000000000000 ∧
  ((∃ (a : Addr) (xs : List V), v = .ref a ∧ SqA K (hid b H) a xs ∧ 0 < xs.length ∧ xs.length ≤ 100000 ∧ ∀ y ∈ xs, ∀ H', Drw b (n + 1) H H' → Q y H') ∨
   (∃ z : Str, v = .str z ∧ 0 < z.length ∧ z.length ≤ 100000 ∧ ∀ c ∈ z.cps.toList, ∀ H', Drw b (n + 1) H H' → Q (.str ⟨#[c]⟩) H'))
abbrev s_law_of : Stmt := top 12
abbrev N_law_of : List Str := ["_law_bag_here", "_law_some"]
theorem sc_law_of : FnScope N_law_of ["_law_bag_here", "_law_some"] (defScope s_law_of) := ⟨rfl, rfl, rfl, by decide +kernel, rfl, by decide +kernel, by decide +kernel⟩
theorem c_of (F : At K mg "_law_of" s_law_of) (B : Bl mg) (c_law_take : Cal P w K mg base 1 "_law_take" spTake) : Cal P w K mg base 2 "_law_of" (spOf K) := by
  refine cal_of F sc_law_of (fun vs H Q E h => ?_) (fun _ _ _ _ _ _ us hl => match us, hl with | [_, _], _ => rfl) (fun f cdv A outer s H vs Q E hr h => ?_)
  · obtain ⟨b, v, n, rfl, _⟩ := h
    rfl
  · obtain ⟨b, v, n, rfl, hb, hn, h⟩ := h
    refine ⟨_, (pss_one (ps_ret (pe_ix (ix_A K) (pv 1) (pe_cA c_law_take hr (by omega) rfl (pa_cons (pv 0) (pa_cons (pe_callB (call_lenA K) rfl B.len (by decide +kernel) (pa_cons (pv 1) pa_nil)) pa_nil))) (fun _ _ => rfl)))), ?_⟩
    walk_at "rd"
    rcases h with ⟨a, xs, rfl, hs, h0, h1, k⟩ | ⟨z, rfl, h0, h1, k⟩
    · have hl : LenV K (.ref a) H xs.length := by
        rcases hs with hs | hs
        · exact .inl ⟨_, Evl.ex_l hid_ex hs, rfl⟩
        · exact .inr ⟨_, Evl.ex_t hid_ex hs, rfl⟩
      refine ⟨_, _, rfl, hl, ?_⟩
      walk_at "rd"
      refine ⟨b, _, n, rfl, hb, hn, by omega, by omega, fun d H' hd0 hd1 hd => ?_⟩
      obtain ⟨j, rfl⟩ := Int.eq_ofNat_of_zero_le hd0
      have hj : j < xs.length := by omega
      have hx : xs[j]? = some xs[j] := List.getElem?_eq_getElem hj
      rcases hs with hs | hs
      · refine r_ixL (Evl.ex_l hid_ex (hd.l hs)) (atI_nat hx) ?_
        exact k _ (List.getElem_mem hj) _ hd
      · refine r_ixT (Evl.ex_t hid_ex (hd.t hs)) (atI_nat hx) ?_
        exact k _ (List.getElem_mem hj) _ hd
    · refine r_lenS (by rw [sizeLine_eq]; omega) ?_
      walk_at "rd"
      refine ⟨b, _, n, rfl, hb, hn, by omega, by omega, fun d H' hd0 hd1 hd => ?_⟩
      obtain ⟨j, rfl⟩ := Int.eq_ofNat_of_zero_le hd0
      have hj : j < z.cps.toList.length := by
        have e : z.cps.toList.length = z.length := by simp [Str.length]
        omega
      refine r_ixS (by rw [sizeLine_eq]; omega) (atI_nat (List.getElem?_eq_getElem hj)) ?_
      exact k _ (List.getElem_mem hj) _ hd

/-! a word -/
def spWord : Sp := fun vs H Q _ => ∃ (b : Addr) (m n : Nat), vs = [.ref b, .int (m : Int)] ∧ Bag b n H ∧ n + m + 2 < 1000000000000 ∧ m ≤ 1000 ∧
  ∀ (z : Str) (H' : Hp), Word m z → Drw b (n + m + 2) H H' → Q (.str z) H'
abbrev s_law_word : Stmt := top 15
abbrev N_law_word : List Str := ["_law_bag_here", "_law_most", "_law_turn"]
theorem sc_law_word : FnScope N_law_word ["_law_bag_here", "_law_most"] (defScope s_law_word) := ⟨rfl, rfl, rfl, by decide +kernel, rfl, by decide +kernel, by decide +kernel⟩
theorem small_eq : ("abcdefghijklmnopqrstuvwxyz" : Str).cps.toList = (List.range 26).map (· + 97) := by decide +kernel
theorem small_ok {c : Nat} (h : c ∈ ("abcdefghijklmnopqrstuvwxyz" : Str).cps.toList) : 97 ≤ c ∧ c ≤ 122 := by
  rw [small_eq] at h
  obtain ⟨x, hx, rfl⟩ := List.mem_map.mp h
  have := List.mem_range.mp hx
  omega
theorem tl_join0 : ∀ cs : List Nat, (Txt.join ("" : Str) (cs.map fun c => (⟨#[c]⟩ : Str))).cps.toList = cs := by
  intro cs
  have h : ∀ l : List (List Nat), TL.joinL [] l = l.flatten := by
    intro l
    induction l with
    | nil => rfl
    | cons p r ih =>
      cases r with
      | nil => simp [TL.joinL]
      | cons q r => rw [TL.joinL, ih]; simp
  have e := TL.tl_join ("" : Str) (cs.map fun c => (⟨#[c]⟩ : Str))
  rw [TL.join_eq]
  refine e.trans ?_
  have e2 : TL.tl ("" : Str) = [] := by decide +kernel
  rw [e2, h, List.map_map]
  clear e
  induction cs with
  | nil => rfl
  | cons c r ih =>
    rw [List.map_cons, List.flatten_cons, ih]
    rfl
theorem c_word (F : At K mg "_law_word" s_law_word) (B : Bl mg) (c_law_take : Cal P w K mg base 1 "_law_take" spTake) (c_law_of : Cal P w K mg base 2 "_law_of" (spOf K)) : Cal P w K mg base 3 "_law_word" spWord := by
  refine cal_of F sc_law_word (fun vs H Q E h => ?_) (fun _ _ _ _ _ _ us hl => match us, hl with | [_, _], _ => rfl) (fun f cdv A outer s H vs Q E hr h => ?_)
  · obtain ⟨b, m, n, rfl, _⟩ := h
    rfl
  · obtain ⟨b, m, n, rfl, hb, hn, hm, k⟩ := h
    refine ⟨_, (pss_one (ps_ret (pe_joinA K pe_str (pe_lc (own := [("_law_turn", 2)]) rfl sc_law_word.nd (pi_range1 rfl B.range (pa_cons (pe_cA c_law_take hr (by omega) rfl (pa_cons (pv 0) (pa_cons (pe_op (op_addA K) (pv 1) pe_int) pa_nil))) pa_nil)) (blkOk_by (N := N_law_word) (sc := defScope s_law_word) (by decide +kernel)) (fun _ _ _ _ _ => (pg_name (i := 2) sc_law_word.nd rfl (Or.inl rfl))) (fun _ _ _ _ _ => pts_nil) (fun _ _ _ _ _ => (pe_cA c_law_of hr (by omega) rfl (pa_cons (pv 0) (pa_cons pe_str pa_nil)))))))), ?_⟩
    walk_at "rd"
    refine ⟨⟨_, rfl⟩, ?_⟩
    walk_at "rd"
    refine ⟨b, _, n, rfl, hb, by omega, by omega, by omega, fun d H1 hd0 hd1 hd => ?_⟩
    obtain ⟨j, rfl⟩ := Int.eq_ofNat_of_zero_le hd0
    refine ⟨_, rfl, by omega, by omega, fun D hD => ?_⟩
    have nDb : D ≠ b := by
      obtain ⟨l, h1, _⟩ := hd.bag
      exact (ne_of_none h1 hD).symm
    refine lc_range (lo := 0) (n := (j : Int).toNat) (fun i H' => ∃ cs : List Nat, cs.length = i ∧ (∀ c ∈ cs, 97 ≤ c ∧ c ≤ 122) ∧ H' D = some (.lst (cs.map fun c => V.str ⟨#[c]⟩)) ∧ Drw b (n + 1 + i) H1 H') ?_ ?_ ?_
    · exact ⟨[], rfl, fun _ h => by (cases h), upd_same, (hd.bag.new hD).1⟩
    · rintro i H' hi ⟨cs, hl, hc, h1, h2⟩
      walk_at "rd"
      refine ⟨rfl, ?_⟩
      walk_at "rd"
      refine ⟨b, _, n + 1 + i, rfl, h2.bag, by omega, .inr ⟨_, rfl, by decide +kernel, by decide +kernel, fun c hcm H2 hd2 => ?_⟩⟩
      have hD2 : H2 D = some (.lst (cs.map fun c => V.str ⟨#[c]⟩)) := hid_get (hd2.ex _ _ (hid_of h1 nDb))
      refine ⟨_, hD2, by rw [sizeLine_eq, List.length_map]; omega, cs ++ [c], by simp [hl], ?_, ?_, ?_⟩
      · intro x hx
        rcases List.mem_append.mp hx with hx | hx
        · exact hc x hx
        · rw [List.mem_singleton.mp hx]
          exact small_ok hcm
      · rw [upd_same, List.map_append]; rfl
      · exact (Drw.put (h2.trans hd2) (hid_none hD) nDb).mono (by omega)
    · rintro H' ⟨cs, hl, hc, h1, h2⟩
      have e1 : cs.map (fun c => V.str ⟨#[c]⟩) = (cs.map fun c => (⟨#[c]⟩ : Str)).map V.str := by rw [List.map_map]; rfl
      refine ⟨_, _, _, rfl, rfl, .inl (SqL.of (by rw [← e1]; exact h1)), ?_, ?_⟩
      · rw [List.map_map, List.length_map]
        have e2 : (cs.map ((fun (x : Str) => x.length) ∘ fun c => (⟨#[c]⟩ : Str))).sum = cs.length := by
          have : ∀ l : List Nat, (l.map ((fun (x : Str) => x.length) ∘ fun c => (⟨#[c]⟩ : Str))).sum = l.length := by
            intro l
            induction l with
            | nil => rfl
            | cons a r ih => rw [List.map_cons, List.sum_cons, ih, List.length_cons]; show 1 + r.length = _; omega
          exact this cs
        rw [e2]
        have e3 : ("" : Str).length = 0 := by decide +kernel
        rw [e3]
        omega
      · refine k _ _ ⟨?_, ?_⟩ ((hd.trans h2).mono (by omega))
        · have := congrArg List.length (tl_join0 cs)
          rw [show (Txt.join ("" : Str) (cs.map fun c => (⟨#[c]⟩ : Str))).length = (Txt.join ("" : Str) (cs.map fun c => (⟨#[c]⟩ : Str))).cps.toList.length from by simp [Str.length], this]
          omega
        · rw [tl_join0]
          exact hc

/-! a class name -/
def spClass : Sp := fun vs H Q _ => ∃ (b : Addr) (n : Nat), vs = [.ref b] ∧ Bag b n H ∧ n + 20 < 1000000000000 ∧
  ∀ (z : Str) (H' : Hp), ClsN z → Drw b (n + 20) H H' → Q (.str z) H'
abbrev s_law_class : Stmt := top 13
abbrev N_law_class : List Str := ["_law_bag_here", "_law_letters", "_law_found", "_law_turn"]
theorem sc_law_class : FnScope N_law_class ["_law_bag_here"] (defScope s_law_class) := ⟨rfl, rfl, rfl, by decide +kernel, rfl, by decide +kernel, by decide +kernel⟩
theorem letters_cap : (cutS ("abcdefghijklmnopqrstuvwxyzABCDEFGHIJKLMNOPQRSTUVWXYZ" : Str) (some 26) none).cps.toList = (List.range 26).map (· + 65) := by decide +kernel
theorem letters_eq : ("abcdefghijklmnopqrstuvwxyzABCDEFGHIJKLMNOPQRSTUVWXYZ" : Str).cps.toList = (List.range 26).map (· + 97) ++ (List.range 26).map (· + 65) := by decide +kernel
theorem letters_ok {c : Nat} (h : c ∈ ("abcdefghijklmnopqrstuvwxyzABCDEFGHIJKLMNOPQRSTUVWXYZ" : Str).cps.toList) : Let c := by
  rw [letters_eq] at h
  rcases List.mem_append.mp h with h | h
  · obtain ⟨x, hx, rfl⟩ := List.mem_map.mp h
    have := List.mem_range.mp hx
    exact .inl ⟨by omega, by omega⟩
  · obtain ⟨x, hx, rfl⟩ := List.mem_map.mp h
    have := List.mem_range.mp hx
    exact .inr ⟨by omega, by omega⟩
theorem tl_snoc (z : Str) (d : Nat) : (z ++ (⟨#[d]⟩ : Str)).cps.toList = z.cps.toList ++ [d] := TL.tl_append z ⟨#[d]⟩
theorem tl_len (z : Str) : z.cps.toList.length = z.length := by simp [Str.length]
theorem c_class (F : At K mg "_law_class" s_law_class) (B : Bl mg) (c_law_take : Cal P w K mg base 1 "_law_take" spTake) (c_law_of : Cal P w K mg base 2 "_law_of" (spOf K)) : Cal P w K mg base 3 "_law_class" spClass := by
  refine cal_of F sc_law_class (fun vs H Q E h => ?_) (fun _ _ _ _ _ _ us hl => match us, hl with | [_], _ => rfl) (fun f cdv A outer s H vs Q E hr h => ?_)
  · obtain ⟨b, n, rfl, _⟩ := h
    rfl
  · obtain ⟨b, n, rfl, hb, hn, k⟩ := h
    refine ⟨_, (pss_cons (ps_set (i := 1) sc_law_class.nd rfl (Or.inl rfl) pe_str)
  (pss_cons (ps_set (i := 2) sc_law_class.nd rfl (Or.inl rfl) (pe_cA c_law_of hr (by omega) rfl (pa_cons (pv 0) (pa_cons (pe_slice (sl_A K) (pv 1) (po_some pe_int) po_none) pa_nil))))
  (pss_cons (ps_for PassesOwn.never rfl (pi_range1 rfl B.range (pa_cons (pe_cA c_law_take hr (by omega) rfl (pa_cons (pv 0) (pa_cons pe_int pa_nil))) pa_nil)) (pg_name (i := 3) sc_law_class.nd rfl (Or.inl rfl))
   (pss_one (ps_set (i := 2) sc_law_class.nd rfl (Or.inl rfl) (pe_op (op_addA K) (pv 2) (pe_cA c_law_of hr (by omega) rfl (pa_cons (pv 0) (pa_cons (pv 1) pa_nil)))))))
  (pss_one (ps_ret (pv 2)))))), ?_⟩
    walk_at "rd"
    refine r_slS (by decide +kernel) ?_
    walk_at "rd"
    refine ⟨b, _, n, rfl, hb, by omega, .inr ⟨_, rfl, by decide +kernel, by decide +kernel, fun c0 hc0 H1 hd1 => ?_⟩⟩
    rw [letters_cap] at hc0
    have hc0 : 65 ≤ c0 ∧ c0 ≤ 90 := by
      obtain ⟨x, hx, rfl⟩ := List.mem_map.mp hc0
      have := List.mem_range.mp hx
      omega
    walk_at "rd"
    refine ⟨b, _, n + 1, rfl, hd1.bag, by omega, by decide, by decide, fun d H2 hd0 hdl hd2 => ?_⟩
    refine ⟨_, rfl, by omega, by omega, for_range (lo := 0) (n := d.toNat) (fun i σ H' => ∃ (z : Str) (r : List Nat) (u : Option V), σ = [some (.ref b), some (.str "abcdefghijklmnopqrstuvwxyzABCDEFGHIJKLMNOPQRSTUVWXYZ"), some (.str z), u] ∧ z.cps.toList = c0 :: r ∧ r.length = i ∧ (∀ x ∈ r, Let x) ∧ Drw b (n + 2 + i) H H') ?_ ?_ ?_⟩
    · exact ⟨⟨#[c0]⟩, [], none, rfl, rfl, rfl, fun _ h => by (cases h), hd1.trans hd2⟩
    · rintro i σ H' hi ⟨z, r, u, rfl, hz, hr2, hlet, hd⟩
      walk_at "rd"
      refine ⟨b, _, n + 2 + i, rfl, hd.bag, by omega, .inr ⟨_, rfl, by decide +kernel, by decide +kernel, fun c hc H3 hd3 => ?_⟩⟩
      have hzl : z.length = i + 1 := by rw [← tl_len, hz, List.length_cons, hr2]
      refine r_addS (by rw [sizeLine_eq, hzl]; show i + 1 + 1 ≤ _; omega) ?_
      refine ⟨_, r ++ [c], _, rfl, ?_, by simp [hr2], ?_, (hd.trans hd3).mono (by omega)⟩
      · rw [tl_snoc, hz]; rfl
      · intro x hx
        rcases List.mem_append.mp hx with hx | hx
        · exact hlet x hx
        · rw [List.mem_singleton.mp hx]
          exact letters_ok hc
    · rintro σ H' ⟨z, r, u, rfl, hz, hr2, hlet, hd⟩
      walk_at "rd"
      exact k _ _ ⟨c0, r, hz, hc0, hlet, by omega⟩ (hd.mono (by omega))

/-! a number -/
def spNumber : Sp := fun vs H Q _ => ∃ (b a : Addr) (n : Nat) (ns : List Int), vs = [.ref b, .ref a] ∧ Bag b n H ∧ n + 10 < 1000000000000 ∧ hid b H a = some (.lst (ns.map V.int)) ∧ ns.length ≤ 1000 ∧
  ∀ (r : Int) (H' : Hp), r.natAbs < 10 ^ 30 → Drw b (n + 10) H H' → Q (.int r) H'
abbrev s_law_number : Stmt := top 17
abbrev N_law_number : List Str := ["_law_bag_here", "_law_near_here", "_law_way", "_law_top"]
theorem sc_law_number : FnScope N_law_number ["_law_bag_here", "_law_near_here"] (defScope s_law_number) := ⟨rfl, rfl, rfl, by decide +kernel, rfl, by decide +kernel, by decide +kernel⟩
theorem c_number (F : At K mg "_law_number" s_law_number) (B : Bl mg) (c_law_take : Cal P w K mg base 1 "_law_take" spTake) (c_law_of : Cal P w K mg base 2 "_law_of" (spOf K)) : Cal P w K mg base 3 "_law_number" spNumber := by
  refine cal_of F sc_law_number (fun vs H Q E h => ?_) (fun _ _ _ _ _ _ us hl => match us, hl with | [_, _], _ => rfl) (fun f cdv A outer s H vs Q E hr h => ?_)
  · obtain ⟨b, a, n, ns, rfl, _⟩ := h
    rfl
  · obtain ⟨b, a, n, ns, rfl, hb, hn, hna, hns, k⟩ := h
    refine ⟨_, (pss_cons (ps_par (i := 2) (j := 3) (by rfl) sc_law_number.nd rfl rfl (by decide) rfl rfl (pa_cons (pe_cA c_law_take hr (by omega) rfl (pa_cons (pv 0) (pa_cons pe_int pa_nil))) (pa_cons (pe_op op_sub (pe_op op_pow pe_int pe_int) pe_int) pa_nil)) (by rfl))
  (pss_cons (ps_if (pt_cmpR op_gtA (pv 2) pe_int (nomark _))
   (pss_one (ps_ret (pe_op op_sub (pe_cA c_law_take hr (by omega) rfl (pa_cons (pv 0) (pa_cons pe_int pa_nil))) pe_int)))
   pss_nil)
  (pss_cons (ps_if (pt_cmpR (op_eqA K hr.units) (pv 2) pe_int (nomark _))
   (pss_one (ps_ret (pe_op op_mulA (pe_op op_sub (pv 3) (pe_cA c_law_take hr (by omega) rfl (pa_cons (pv 0) (pa_cons (pe_op op_pow pe_int pe_int) pa_nil)))) (pe_op op_sub pe_int (pe_op op_mulA pe_int (pe_cA c_law_take hr (by omega) rfl (pa_cons (pv 0) (pa_cons pe_int pa_nil))))))))
   pss_nil)
  (pss_one (ps_ret (pe_callB (call_max2A rfl) rfl B.max (by decide +kernel) (pa_cons (pe_un un_neg (pv 3)) (pa_cons (pe_callB (call_min2A rfl) rfl B.min (by decide +kernel) (pa_cons (pv 3) (pa_cons (pe_op op_sub (pe_op (op_addA K) (pe_cA c_law_of hr (by omega) rfl (pa_cons (pv 0) (pa_cons (pe_op (op_addA K) (pv 1) (pe_lst (pa_cons pe_int pa_nil))) pa_nil))) (pe_cA c_law_take hr (by omega) rfl (pa_cons (pv 0) (pa_cons pe_int pa_nil)))) pe_int) pa_nil))) pa_nil)))))))), ?_⟩
    walk_at "rd"
    refine ⟨b, _, n, rfl, hb, by omega, by decide, by decide, fun d H1 hd0 hdl hd1 => ?_⟩
    walk_at "rx"
    refine iteD (fun h1 => ?_) (fun h1 => ?_)
    · walk_at "rd"
      refine ⟨b, _, n + 1, rfl, hd1.bag, by omega, by decide, by decide, fun d2 H2 hd20 hd2l hd2 => ?_⟩
      walk_at "rd"
      refine k _ _ ?_ ((hd1.trans hd2).mono (by omega))
      omega
    · walk_at "rd"
      refine iteD (fun h2 => ?_) (fun h2 => ?_)
      · walk_at "rx"
        refine ⟨b, _, n + 1, rfl, hd1.bag, by omega, by decide, by decide, fun d2 H2 hd20 hd2l hd2 => ?_⟩
        walk_at "rx"
        refine ⟨b, _, n + 2, rfl, hd2.bag, by omega, by decide, by decide, fun d3 H3 hd30 hd3l hd3 => ?_⟩
        walk_at "rx"
        have e10 : (10 : Int) ^ (30 : Int).toNat = 1000000000000000000000000000000 := by decide
        rw [e10] at hd2l
        refine k _ _ ?_ (((hd1.trans hd2).trans hd3).mono (by omega))
        rw [e10]
        obtain rfl | rfl : d3 = 0 ∨ d3 = 1 := by omega
        · omega
        · omega
      · walk_at "rd"
        have e10 : (10 : Int) ^ (30 : Int).toNat = 1000000000000000000000000000000 := by decide
        refine ⟨Nat.le_of_lt (by decide), fun p hp => ?_⟩
        have hd2 := hd1.bag.new (o := .lst [.int 0]) hp
        have hna2 := hd2.1.ex _ _ (hd1.ex _ _ hna)
        refine r_addL (hid_get hna2) (hid_get hd2.2) (by rw [sizeLine_eq, List.length_map]; show _ + 1 ≤ _; omega) (fun l hl => ?_)
        have hd3 := hd2.1.bag.new (o := .lst (ns.map V.int ++ [.int 0])) hl
        walk_at "rd"
        refine ⟨b, _, n + 1, rfl, hd3.1.bag, by omega, .inl ⟨l, _, rfl, .inl (SqL.of hd3.2), by simp, by rw [List.length_append, List.length_map]; show _ + 1 ≤ _; omega, fun y hy H2 hd4 => ?_⟩⟩
        obtain ⟨yi, rfl⟩ : ∃ yi, y = V.int yi := by
          rcases List.mem_append.mp hy with hy | hy
          · obtain ⟨yi, _, rfl⟩ := List.mem_map.mp hy
            exact ⟨yi, rfl⟩
          · exact ⟨0, List.mem_singleton.mp hy⟩
        walk_at "rd"
        refine ⟨b, _, n + 2, rfl, hd4.bag, by omega, by decide, by decide, fun d5 H5 hd50 hd5l hd5 => ?_⟩
        walk_at "rd"
        refine k _ _ ?_ (((((hd1.trans hd2.1).trans hd3.1).trans hd4).trans hd5).mono (by omega))
        rw [e10]
        split <;> split <;> omega

/-! a bag -/
def spBag (K : PySem.W.Frag) : Sp := fun vs H Q _ => ∃ (a : Addr) (ns : List Int) (i : Nat), vs = [.ref a, .int (i : Int)] ∧ SqL K H a (ns.map V.int) ∧ i < 64 ∧ ns.length ≤ 63 ∧
  ∀ (b : Addr) (l : List V), H b = none → BagL 0 l → Q (.ref b) (upd H b (.lst l))
abbrev s_law_bag : Stmt := top 14
abbrev N_law_bag : List Str := ["_law_script", "_law_at", "_law_cell"]
theorem sc_law_bag : FnScope N_law_bag ["_law_script", "_law_at"] (defScope s_law_bag) := ⟨rfl, rfl, rfl, by decide +kernel, rfl, by decide +kernel, by decide +kernel⟩
theorem c_bag (F : At K mg "_law_bag" s_law_bag) (B : Bl mg) : Cal P w K mg base 1 "_law_bag" (spBag K) := by
  refine cal_of F sc_law_bag (fun vs H Q E h => ?_) (fun _ _ _ _ _ _ us hl => match us, hl with | [_, _], _ => rfl) (fun f cdv A outer s H vs Q E hr h => ?_)
  · obtain ⟨a, ns, i, rfl, _⟩ := h
    rfl
  · obtain ⟨a, ns, i, rfl, hs, hi, hns, k⟩ := h
    refine ⟨_, (pss_cons (ps_set (i := 2) sc_law_bag.nd rfl (Or.inl rfl) (pe_ifExp (pt_cmpR op_ltA (pv 1) (pe_callB (call_lenA K) rfl B.len (by decide +kernel) (pa_cons (pv 0) pa_nil)) (nomark _)) (pe_ix (ix_A K) (pv 0) (pv 1) (fun _ _ => rfl)) pe_int))
  (pss_one (ps_ret (pe_lst (pa_cons (pe_ifExp (pt_cmpR op_geA (pe_callB call_absA rfl B.abs (by decide +kernel) (pa_cons (pv 2) pa_nil)) (pe_op op_pow pe_int pe_int) (nomark _)) (pe_callB call_absA rfl B.abs (by decide +kernel) (pa_cons (pv 2) pa_nil)) pe_int) (pa_cons (pe_op (op_addA K) (pe_op op_mod (pe_callTy call_intA rfl B.int (by decide +kernel) (pa_cons (pv 2) pa_nil)) pe_int) (pe_op op_mulA pe_int (pv 1))) (pa_cons pe_int pa_nil))))))), ?_⟩
    walk_at "rd"
    refine r_lenL hs ?_
    walk_at "rd"
    have key : ∀ c : Int, tRet (tLst (tCons (tIf (tTest (tOp rGeA (tCB rAbsA (tCons (tVar 2) tNil)) (tOp (rI CPow fun i j => .int (i ^ j.toNat)) (tC (.int 10)) (tC (.int 18))))) (tCB rAbsA (tCons (tVar 2) tNil)) (tC (.int 0)))
        (tCons (tOp (rAddA K) (tOp (rI (fun _ j => 0 < j) fun i j => .int (i % j)) (tCB rIntA (tCons (tVar 2) tNil)) (tC (.int 998244353))) (tOp rMulA (tC (.int 3000017)) (tVar 1))) (tCons (tC (.int 0)) tNil)))) { nx := fun _ H' => Q .non H', rt := Q } [some (.ref a), some (.int (i : Int)), some (.int c)] H := by
      intro c
      have hm1 : 0 ≤ c % 998244353 := Int.emod_nonneg _ (by decide)
      have hm2 : c % 998244353 < 998244353 := Int.emod_lt_of_pos _ (by decide)
      walk_at "rx"
      refine iteD (fun h1 => ?_) (fun h1 => ?_)
      · walk_at "rx"
        refine ⟨(by show 3 ≤ sizeLine; decide), fun p hp => k p _ hp ⟨_, _, _, rfl, by omega, by omega, by omega, by omega⟩⟩
      · walk_at "rx"
        refine ⟨(by show 3 ≤ sizeLine; decide), fun p hp => k p _ hp ⟨_, _, _, rfl, by omega, by omega, by omega, by omega⟩⟩
    refine iteD (fun h1 => ?_) (fun h1 => ?_)
    · have hi2 : i < ns.length := by
        rw [List.length_map] at h1
        omega
      walk_at "rd"
      refine r_ixL hs (atI_nat (by rw [List.getElem?_map, List.getElem?_eq_getElem hi2]; rfl)) ?_
      exact key _
    · refine r_c ?_
      exact key 0
end

abbrev s_law_any : Stmt := top 16
abbrev N_law_any : List Str := ["_law_bag_here", "_law_deep", "_law_way", "_law_some", "_law_turn"]
theorem sc_law_any : FnScope N_law_any ["_law_bag_here", "_law_deep"] (defScope s_law_any) := ⟨rfl, rfl, rfl, by decide +kernel, rfl, by decide +kernel, by decide +kernel⟩
def anyCost : Nat → Nat
  | 0 => 100
  | n + 1 => 100 + 5 * anyCost n
def spAny (K : PySem.W.Frag) (D : Nat) : Sp := fun vs H Q _ => ∃ (b : Addr) (n : Nat), vs = [.ref b, .int (D : Int)] ∧ Bag b n H ∧ n + anyCost D < 1000000000000 ∧
  ∀ (v : V) (H' : Hp), Dv K (nov H H') D v → Drw b (n + anyCost D) H H' → Q v H'
section
variable {P : Program} {w : World} {K : PySem.W.Frag} {mg : Str → Option Value} {base : Heap}
theorem str_dv {H : Hp} {m : Nat} {z : Str} (h1 : decide (z.length ≤ 100000) = true) (h2 : PyData.strOk z = true) : Dv K H m (.str z) := dv_str (of_decide_eq_true h1) h2
theorem word_dv {H : Hp} {m n : Nat} {z : Str} (h : Word n z) (hn : n ≤ 1000) : Dv K H m (.str z) := dv_str (by have := h.1; omega) (word_ok h)
theorem cls_dv {H : Hp} {m : Nat} {z : Str} (h : ClsN z) : Dv K H m (.str z) := by
  refine dv_str ?_ (cls_ok h)
  obtain ⟨c, r, e, _, _, hr⟩ := h
  have : z.cps.toList.length = z.length := by simp [Str.length]
  rw [← this, e, List.length_cons]
  omega
theorem any_step (F : At K mg "_law_any" s_law_any) (B : Bl mg) (c_law_take : Cal P w K mg base 1 "_law_take" spTake) (c_law_of : Cal P w K mg base 2 "_law_of" (spOf K)) (c_law_word : Cal P w K mg base 3 "_law_word" spWord) (c_law_class : Cal P w K mg base 3 "_law_class" spClass)
    (D k : Nat) (sp' : Sp) (hs : ∀ D', D = D' + 1 → sp' = spAny K D') (c_law_any : Cal P w K mg base (k + 3) "_law_any" sp') : Cal P w K mg base (k + 4) "_law_any" (spAny K D) := by
  refine cal_of F sc_law_any (fun vs H Q E h => ?_) (fun _ _ _ _ _ _ us hl => match us, hl with | [_, _], _ => rfl) (fun f cdv A outer s H vs Q E hr h => ?_)
  · obtain ⟨b, n, rfl, _⟩ := h
    rfl
  · obtain ⟨b, n, rfl, hb, hn, kk⟩ := h
    have hc0 : 100 ≤ anyCost D := by cases D <;> simp [anyCost] <;> omega
    refine ⟨_, (pss_cons (ps_set (i := 2) sc_law_any.nd rfl (Or.inl rfl) (pe_cA c_law_take hr (by omega) rfl (pa_cons (pv 0) (pa_cons pe_int pa_nil))))
  (pss_cons (ps_if (pt_cmpR (op_eqA K hr.units) (pv 2) pe_int (nomark _))
   (pss_one (ps_ret (pe_cA c_law_of hr (by omega) rfl (pa_cons (pv 0) (pa_cons (pe_lst (pa_cons pe_non (pa_cons pe_bl (pa_cons pe_bl (pa_cons pe_int (pa_cons pe_int pa_nil)))))) pa_nil)))))
   pss_nil)
  (pss_cons (ps_if (pt_cmpR (op_eqA K hr.units) (pv 2) pe_int (nomark _))
   (pss_one (ps_ret (pe_op op_sub (pe_cA c_law_take hr (by omega) rfl (pa_cons (pv 0) (pa_cons (pe_op op_mulA pe_int (pe_op op_pow pe_int pe_int)) pa_nil))) (pe_op op_pow pe_int pe_int))))
   pss_nil)
  (pss_cons (ps_if (pt_cmpR (op_eqA K hr.units) (pv 2) pe_int (nomark _))
   (pss_one (ps_ret (pe_cA c_law_word hr (by omega) rfl (pa_cons (pv 0) (pa_cons pe_int pa_nil)))))
   pss_nil)
  (pss_cons (ps_if (pt_cmpR (op_eqA K hr.units) (pv 2) pe_int (nomark _))
   (pss_one (ps_ret (pe_cA c_law_of hr (by omega) rfl (pa_cons (pv 0) (pa_cons (pe_lst (pa_cons pe_str (pa_cons pe_str (pa_cons pe_str (pa_cons pe_str (pa_cons pe_str (pa_cons pe_str (pa_cons pe_str (pa_cons pe_str (pa_cons pe_str (pa_cons pe_str pa_nil))))))))))) pa_nil)))))
   pss_nil)
  (pss_cons (ps_if (pt_cmpR (op_eqA K hr.units) (pv 2) pe_int (nomark _))
   (pss_one (ps_ret (pe_cA c_law_class hr (by omega) rfl (pa_cons (pv 0) pa_nil))))
   pss_nil)
  (pss_cons (ps_if (pt_cmpR (op_eqA K hr.units) (pv 1) pe_int (nomark _))
   (pss_one (ps_ret (pe_op op_sub (pe_cA c_law_take hr (by omega) rfl (pa_cons (pv 0) (pa_cons pe_int pa_nil))) pe_int)))
   pss_nil)
  (pss_cons (ps_setLc (i := 3) (own := [("_law_turn", 4)]) rfl sc_law_any.nd rfl rfl (sw_true rfl rfl rfl (by decide +kernel)) (pi_range1 rfl B.range (pa_cons (pe_cA c_law_take hr (by omega) rfl (pa_cons (pv 0) (pa_cons pe_int pa_nil))) pa_nil)) (blkOk_by (N := N_law_any) (sc := defScope s_law_any) (by decide +kernel)) (fun _ _ _ _ _ => (pg_name (i := 4) sc_law_any.nd rfl (Or.inl rfl))) (fun _ _ _ _ _ => pts_nil) (fun _ _ _ _ _ => (pe_cA c_law_any hr (by omega) rfl (pa_cons (pv 0) (pa_cons (pe_op op_sub (pv 1) pe_int) pa_nil)))))
  (pss_one (ps_ret (pe_ifExp (pt_cmpR op_ltA (pv 2) pe_int (nomark _)) (pe_callTy (call_tupleA K) rfl B.tuple (by decide +kernel) (pa_cons (pv 3) pa_nil)) (pv 3)))))))))))), ?_⟩
    walk_at "rd"
    refine ⟨b, _, n, rfl, hb, by omega, by decide, by decide, fun way H1 hw0 hw1 r1 => ?_⟩
    walk_at "rd"
    refine iteD (fun h1 => ?_) (fun h1 => ?_)
    · walk_at "rd"
      refine ⟨by show 5 ≤ sizeLine; decide, fun p hp => ?_⟩
      obtain ⟨r2, hp2⟩ := r1.bag.new (o := .lst [.non, .bl true, .bl false, .int 0, .int 1]) hp
      walk_at "rd"
      refine ⟨b, _, n + 1, rfl, r2.bag, by omega, .inl ⟨p, _, rfl, .inl (SqL.of hp2), by simp, by simp, fun y hy H3 r3 => ?_⟩⟩
      refine kk _ _ ?_ (((r1.trans r2).trans r3).mono (by omega))
      simp only [List.mem_cons, List.not_mem_nil, or_false] at hy
      rcases hy with rfl | rfl | rfl | rfl | rfl
      · exact dv_non
      · exact dv_bl
      · exact dv_bl
      · exact dv_int
      · exact dv_int
    · walk_at "rd"
      refine iteD (fun h2 => ?_) (fun h2 => ?_)
      · walk_at "rx"
        refine ⟨b, _, n + 1, rfl, r1.bag, by omega, by decide, by decide, fun d H2 _ _ r2 => ?_⟩
        walk_at "rx"
        exact kk _ _ dv_int ((r1.trans r2).mono (by omega))
      · walk_at "rd"
        refine iteD (fun h3 => ?_) (fun h3 => ?_)
        · walk_at "rd"
          refine ⟨b, 31, n + 1, rfl, r1.bag, by omega, by omega, fun z H2 hz r2 => ?_⟩
          exact kk _ _ (word_dv hz (by omega)) ((r1.trans r2).mono (by omega))
        · walk_at "rd"
          refine iteD (fun h4 => ?_) (fun h4 => ?_)
          · walk_at "rd"
            refine ⟨by show 10 ≤ sizeLine; decide, fun p hp => ?_⟩
            obtain ⟨r2, hp2⟩ := r1.bag.new (o := .lst [.str "", .str "raises", .str "Error", .str "a b", .str "aB", .str "a1", .str "none", .str " ", .str "Abcdefghijkl", .str "Abcdefghijklm"]) hp
            walk_at "rd"
            refine ⟨b, _, n + 1, rfl, r2.bag, by omega, .inl ⟨p, _, rfl, .inl (SqL.of hp2), by simp, by simp, fun y hy H3 r3 => ?_⟩⟩
            refine kk _ _ ?_ (((r1.trans r2).trans r3).mono (by omega))
            simp only [List.mem_cons, List.not_mem_nil, or_false] at hy
            rcases hy with rfl | rfl | rfl | rfl | rfl | rfl | rfl | rfl | rfl | rfl
            all_goals exact str_dv (by decide +kernel) (by decide +kernel)
          · walk_at "rd"
            refine iteD (fun h5 => ?_) (fun h5 => ?_)
            · walk_at "rd"
              refine ⟨b, n + 1, rfl, r1.bag, by omega, fun z H2 hz r2 => ?_⟩
              exact kk _ _ (cls_dv hz) ((r1.trans r2).mono (by omega))
            · walk_at "rd"
              refine iteD (fun h6 => ?_) (fun h6 => ?_)
              · walk_at "rd"
                refine ⟨b, _, n + 1, rfl, r1.bag, by omega, by decide, by decide, fun d H2 _ _ r2 => ?_⟩
                walk_at "rd"
                exact kk _ _ dv_int ((r1.trans r2).mono (by omega))
              · obtain ⟨D', rfl⟩ : ∃ D', D = D' + 1 := by
                  cases D with
                  | zero => exact absurd rfl h6
                  | succ n => exact ⟨n, rfl⟩
                obtain rfl := hs D' rfl
                have hcost : anyCost (D' + 1) = 100 + 5 * anyCost D' := rfl
                rw [hcost] at hn kk
                walk_at "rd"
                refine ⟨b, _, n + 1, rfl, r1.bag, by omega, by decide, by decide, fun m0 H2 hm0 hm1 r2 => ?_⟩
                obtain ⟨m, rfl⟩ := Int.eq_ofNat_of_zero_le hm0
                replace r2 := r1.trans r2
                refine ⟨_, rfl, by omega, by omega, fun L hL => ?_⟩
                refine lc_draw (m := (m : Int).toNat) (c := anyCost D') hL r2.bag (by omega) (fun G v => Dv K G D' v) (fun _ _ _ e => Dv.mono e (Nat.le_refl _)) ?_ ?_ ?_
                · exact fun _ => rfl
                · intro i H' hi r3 Q' q
                  have hi5 : anyCost D' * i ≤ anyCost D' * 4 := Nat.mul_le_mul_left _ (by omega)
                  walk_at "rd"
                  refine ⟨b, _, by rw [show ((D' + 1 : Nat) : Int) - 1 = (D' : Int) by omega]; rfl, r3.bag, by omega, fun v H'' hv r4 => q v H'' hv r4⟩
                · intro H3 xs hxl hI hL3 nLb r3
                  have hm5 : anyCost D' * (m : Int).toNat ≤ anyCost D' * 4 := Nat.mul_le_mul_left _ (by omega)
                  have hnew : nov H H3 L = some (.lst xs) := nov_of (r2.dom hL) hL3
                  have hI2 : ∀ v ∈ xs, Dv K (nov H H3) D' v := fun v hv => Dv.mono (fun a o h => r2.base a o (hid_get h)) (Nat.le_refl _) (hI v hv)
                  walk_at "rd"
                  refine iteD (fun h7 => ?_) (fun h7 => ?_)
                  · walk_at "rd"
                    refine ⟨L, xs, rfl, .inl ⟨SqL.of hL3, fun p hp => ?_⟩⟩
                    obtain ⟨r4, hp4⟩ := r3.bag.new (o := .tup xs) hp
                    have r5 := (r2.trans r3).trans r4
                    refine kk _ _ ?_ (r5.mono (by omega))
                    refine dv_tup (SqT.of (nov_of ((r2.trans r3).dom hp) upd_same)) (fun v hv => Dv.mono (r4.novm hb.some) (Nat.le_refl _) (hI2 v hv)) (by omega)
                  · walk_at "rd"
                    refine kk _ _ ?_ ((r2.trans r3).mono (by omega))
                    exact dv_lst (SqL.of hnew) hI2 (by omega)
theorem any_never (F : At K mg "_law_any" s_law_any) : Cal P w K mg base 3 "_law_any" (fun _ _ _ _ => False) :=
  cal_of F sc_law_any (fun vs H Q E h => h.elim) (fun _ _ _ _ _ _ us hl => match us, hl with | [_, _], _ => rfl) (fun f cdv A outer s H vs Q E hr h => h.elim)
theorem c_any (F : At K mg "_law_any" s_law_any) (B : Bl mg) (c_law_take : Cal P w K mg base 1 "_law_take" spTake) (c_law_of : Cal P w K mg base 2 "_law_of" (spOf K)) (c_law_word : Cal P w K mg base 3 "_law_word" spWord) (c_law_class : Cal P w K mg base 3 "_law_class" spClass) :
    ∀ D : Nat, Cal P w K mg base (D + 4) "_law_any" (spAny K D)
  | 0 => any_step F B c_law_take c_law_of c_law_word c_law_class 0 0 _ (fun _ e => by cases e) (any_never F)
  | D + 1 => any_step F B c_law_take c_law_of c_law_word c_law_class (D + 1) (D + 1) _ (fun D' e => by cases e; rfl) (c_any F B c_law_take c_law_of c_law_word c_law_class D)
end

end WP

set_option Elab.async false
set_option linter.all false
set_option maxRecDepth 100000
set_option maxHeartbeats 4000000
namespace WP
open PySem PySem.Spec PyProof.Rows L2
local macro_rules | `(tactic| walk_at "rd") => `(tactic| repeat (first
  | with_reducible refine r_seq ?_ | with_reducible refine r_var rfl ?_ | with_reducible refine r_c ?_ | with_reducible refine r_op ?_ | with_reducible refine r_cons ?_ | with_reducible refine r_nil ?_
  | with_reducible refine r_cb ?_ | with_reducible refine r_call ?_ | with_reducible refine r_test ?_ | with_reducible refine r_B ?_ | with_reducible refine r_bl ?_ | with_reducible refine r_asg ?_ | with_reducible refine r_asgS ?_
  | with_reducible refine r_ret ?_ | with_reducible refine r_drop ?_ | with_reducible refine r_ifS ?_ | with_reducible refine r_if ?_ | with_reducible refine r_and ?_ | with_reducible refine r_or ?_ | with_reducible refine r_not ?_
  | with_reducible refine r_andV ?_ | with_reducible refine r_orV ?_ | with_reducible refine r_notV ?_ | with_reducible refine r_chain ?_ | with_reducible refine r_sl ?_ | with_reducible refine r_nopart ?_ | with_reducible refine r_part ?_
  | with_reducible refine r_intO ?_ | with_reducible refine r_two ?_ | with_reducible refine r_m1 ?_ | with_reducible refine r_bm ?_ | with_reducible refine r_next ?_ | with_reducible refine r_for ?_ | with_reducible refine r_rng1 ?_ | with_reducible refine r_iList ?_ | with_reducible refine r_iAny ?_ | with_reducible refine r_lc ?_ | with_reducible refine r_yes ?_ | with_reducible refine r_gN ?_ | with_reducible refine r_par ?_ | with_reducible refine r_un ?_ | with_reducible refine r_brk ?_ | with_reducible refine r_cont ?_
  | with_reducible refine r_I0 ?_ | with_reducible refine r_U ?_ | with_reducible refine r_addI ?_ | with_reducible refine r_abs ?_ | with_reducible refine r_intI ?_ | with_reducible refine r_max2 ?_ | with_reducible refine r_min2 ?_
  | with_reducible refine r_ltI ?_ | with_reducible refine r_leI ?_ | with_reducible refine r_gtI ?_ | with_reducible refine r_geI ?_ | with_reducible refine r_isN_non ?_ | with_reducible refine r_isN_int ?_ | with_reducible refine r_isN_str ?_ | with_reducible refine r_isN_bl ?_ | with_reducible refine r_isN_ref ?_ | with_reducible refine r_isN ?_ | with_reducible refine r_isB ?_ | with_reducible refine r_isnotN_non ?_ | with_reducible refine r_isnotN_int ?_ | with_reducible refine r_isnotN_str ?_ | with_reducible refine r_isnotN_bl ?_ | with_reducible refine r_isnotN_ref ?_ | with_reducible refine r_isnotN ?_ | with_reducible refine r_isnotB ?_
  | with_reducible refine r_inS ?_ | with_reducible refine r_eqS rfl ?_ | with_reducible refine r_neS rfl ?_ | with_reducible refine r_lst ?_ | with_reducible refine r_tup ?_ | with_reducible refine iteT ?_ | with_reducible refine iteF ?_))
local macro_rules | `(tactic| walk_at "isi") => `(tactic| (first
  | with_reducible refine r_isi_non_int ?_
  | with_reducible refine r_isi_non_str ?_
  | with_reducible refine r_isi_non_list ?_
  | with_reducible refine r_isi_non_tuple ?_
  | with_reducible refine r_isi_non_bool ?_
  | with_reducible refine r_isi_bl_int ?_
  | with_reducible refine r_isi_bl_str ?_
  | with_reducible refine r_isi_bl_list ?_
  | with_reducible refine r_isi_bl_tuple ?_
  | with_reducible refine r_isi_bl_bool ?_
  | with_reducible refine r_isi_int_int ?_
  | with_reducible refine r_isi_int_str ?_
  | with_reducible refine r_isi_int_list ?_
  | with_reducible refine r_isi_int_tuple ?_
  | with_reducible refine r_isi_int_bool ?_
  | with_reducible refine r_isi_str_int ?_
  | with_reducible refine r_isi_str_str ?_
  | with_reducible refine r_isi_str_list ?_
  | with_reducible refine r_isi_str_tuple ?_
  | with_reducible refine r_isi_str_bool ?_
  | with_reducible refine r_isi_lst_int (SqL.of (by assumption)) ?_
  | with_reducible refine r_isi_lst_str (SqL.of (by assumption)) ?_
  | with_reducible refine r_isi_lst_list (SqL.of (by assumption)) ?_
  | with_reducible refine r_isi_lst_tuple (SqL.of (by assumption)) ?_
  | with_reducible refine r_isi_lst_bool (SqL.of (by assumption)) ?_
  | with_reducible refine r_isi_tup_int (SqT.of (by assumption)) ?_
  | with_reducible refine r_isi_tup_str (SqT.of (by assumption)) ?_
  | with_reducible refine r_isi_tup_list (SqT.of (by assumption)) ?_
  | with_reducible refine r_isi_tup_tuple (SqT.of (by assumption)) ?_
  | with_reducible refine r_isi_tup_bool (SqT.of (by assumption)) ?_))
local macro_rules | `(tactic| walk_at "rs") => `(tactic| (first
  | ((with_reducible refine iteTc ?hc ?_); (case hc => rfl)) | ((with_reducible refine iteFc ?hc ?_); (case hc => rfl))
  | walk_at "isi"
  | refine r_ixL (SqL.of (by assumption)) rfl ?_ | refine r_ixL (SqL.of upd_same) rfl ?_
  | refine r_I (C := fun _ j => 0 < j) (by first | decide | assumption | omega) ?_
  | refine r_mulI (.inl ⟨by decide, by decide⟩) ?_ | refine r_mulI (.inr ⟨by decide, by decide⟩) ?_ | refine r_mulI (.inr ⟨by omega, by omega⟩) ?_ | refine r_mulI (.inl ⟨by omega, by omega⟩) ?_
  | refine r_I (wide_div (b := 64) (by decide) (by decide) (by decide) (by decide)) ?_
  | refine r_I (C := CPow) ⟨by decide, by decide, by decide⟩ ?_
  | refine r_setL (by assumption) rfl ?_ | refine r_setL upd_same rfl ?_))
local macro_rules | `(tactic| walk_at "rx") => `(tactic| (walk_at "rd"; (repeat (walk_at "rs"; walk_at "rd"))))

abbrev s_law_near : Stmt := top 23
abbrev N_law_near : List Str := ["_law_bag_here", "_law_found", "_law_turn", "_law_wrong", "_law_way"]
theorem sc_law_near : FnScope N_law_near ["_law_bag_here"] (defScope s_law_near) := ⟨rfl, rfl, rfl, by decide +kernel, rfl, by decide +kernel, by decide +kernel⟩
def spNear (K : PySem.W.Frag) : Sp := fun vs H Q _ => ∃ (b : Addr) (n : Nat), vs = [.ref b] ∧ Bag b n H ∧ n + 200 < 1000000000000 ∧
  ∀ (v : V) (H' : Hp), Dv K (nov H H') 3 v → Drw b (n + 200) H H' → Q v H'
section
variable {P : Program} {w : World} {K : PySem.W.Frag} {mg : Str → Option Value} {base : Heap}
theorem mem_cutV {xs : List V} {lo hi : Option Int} {v : V} (h : v ∈ cutV xs lo hi) : v ∈ xs := by
  unfold cutV at h
  exact List.mem_of_mem_drop (List.mem_of_mem_take h)
theorem mulOk_a {z : Str} {n : Int} (h0 : 1 < n) (h1 : n ≤ 100000) (h2 : z.length = 1) : MulOk z n := by
  refine ⟨?_, fun _ _ => ?_, fun _ _ => ?_⟩
  · have a : ¬ n < -(2 ^ 63 : Int) := by omega
    have b : ¬ n ≥ (2 ^ 63 : Int) := by omega
    rw [decide_eq_false a, decide_eq_false b]; rfl
  · rw [h2]
    have : (1 : Int) ≤ (2 ^ 63 - 1) / n := by
      rw [Int.le_ediv_iff_mul_le (by omega)]
      omega
    omega
  · rw [h2]
    exact decide_eq_false (by rw [sizeLine_eq]; omega)
theorem c_near (F : At K mg "_law_near" s_law_near) (B : Bl mg) (c_law_take : Cal P w K mg base 1 "_law_take" spTake) (c_law_of : Cal P w K mg base 2 "_law_of" (spOf K)) (c_law_class : Cal P w K mg base 3 "_law_class" spClass) : Cal P w K mg base 4 "_law_near" (spNear K) := by
  refine cal_of F sc_law_near (fun vs H Q E h => ?_) (fun _ _ _ _ _ _ us hl => match us, hl with | [_], _ => rfl) (fun f cdv A outer s H vs Q E hr h => ?_)
  · obtain ⟨b, n, rfl, _⟩ := h
    rfl
  · obtain ⟨b, n, rfl, hb, hn, kk⟩ := h
    refine ⟨_, (pss_cons (ps_if (pt_cmpR (op_eqA K hr.units) (pe_cA c_law_take hr (by omega) rfl (pa_cons (pv 0) (pa_cons pe_int pa_nil))) pe_int (nomark _))
   (pss_cons (ps_setLc (i := 1) (own := [("_law_turn", 2)]) rfl sc_law_near.nd rfl rfl (sw_true rfl rfl rfl (by decide +kernel)) (pi_range1 rfl B.range (pa_cons (pe_cA c_law_take hr (by omega) rfl (pa_cons (pv 0) (pa_cons pe_int pa_nil))) pa_nil)) (blkOk_by (N := N_law_near) (sc := defScope s_law_near) (by decide +kernel)) (fun _ _ _ _ _ => (pg_name (i := 2) sc_law_near.nd rfl (Or.inl rfl))) (fun _ _ _ _ _ => pts_nil) (fun _ _ _ _ _ => (pe_cA c_law_of hr (by omega) rfl (pa_cons (pv 0) (pa_cons (pe_lst (pa_cons pe_non (pa_cons pe_int (pa_cons (pe_un un_neg pe_int) (pa_cons (pe_op op_pow pe_int pe_int) (pa_cons pe_str (pa_cons pe_str pa_nil))))))) pa_nil)))))
  (pss_cons (ps_set (i := 3) sc_law_near.nd rfl (Or.inl rfl) (pe_cA c_law_of hr (by omega) rfl (pa_cons (pv 0) (pa_cons (pe_lst (pa_cons pe_bl (pa_cons pe_str (pa_cons (pe_lst (pa_cons pe_int pa_nil)) (pa_cons (pe_tup pa_nil) (pa_cons (pe_tup (pa_cons pe_str (pa_cons pe_str (pa_cons pe_non pa_nil)))) (pa_cons (pe_op op_mulA pe_str pe_int) (pa_cons (pe_op op_mulA pe_str pe_int) (pa_cons (pe_un un_neg pe_int) (pa_cons pe_str (pa_cons pe_str pa_nil))))))))))) pa_nil))))
  (pss_one (ps_ret (pe_op (op_addA K) (pe_op (op_addA K) (pe_slice (sl_A K) (pv 1) po_none (po_some pe_int)) (pe_op op_mulA (pe_lst (pa_cons (pv 3) pa_nil)) (pe_cA c_law_take hr (by omega) rfl (pa_cons (pv 0) (pa_cons pe_int pa_nil))))) (pe_slice (sl_A K) (pv 1) (po_some pe_int) po_none))))))
   pss_nil)
  (pss_cons (ps_set (i := 1) sc_law_near.nd rfl (Or.inl rfl) (pe_lst (pa_cons pe_str (pa_cons (pe_cA c_law_class hr (by omega) rfl (pa_cons (pv 0) pa_nil)) (pa_cons (pe_cA c_law_of hr (by omega) rfl (pa_cons (pv 0) (pa_cons (pe_lst (pa_cons pe_non (pa_cons (pe_cA c_law_class hr (by omega) rfl (pa_cons (pv 0) pa_nil)) (pa_cons pe_str pa_nil)))) pa_nil))) pa_nil)))))
  (pss_cons (ps_set (i := 4) sc_law_near.nd rfl (Or.inl rfl) (pe_cA c_law_take hr (by omega) rfl (pa_cons (pv 0) (pa_cons pe_int pa_nil))))
  (pss_cons (ps_if (pt_cmpR (op_eqA K hr.units) (pv 4) pe_int (nomark _))
   (pss_one (ps_asg (pe_cA c_law_of hr (by omega) rfl (pa_cons (pv 0) (pa_cons (pe_lst (pa_cons pe_str (pa_cons pe_str (pa_cons pe_non (pa_cons pe_int (pa_cons pe_str (pa_cons pe_bl pa_nil))))))) pa_nil))) (pg_sub (pv 1) pe_int set_list)))
   pss_nil)
  (pss_cons (ps_if (pt_cmpR (op_eqA K hr.units) (pv 4) pe_int (nomark _))
   (pss_one (ps_asg (pe_cA c_law_of hr (by omega) rfl (pa_cons (pv 0) (pa_cons (pe_lst (pa_cons pe_non (pa_cons pe_str (pa_cons pe_str (pa_cons pe_str (pa_cons pe_bl (pa_cons (pe_op (op_addA K) pe_str (pe_op op_mulA pe_str pe_int)) (pa_cons (pe_op (op_addA K) pe_str (pe_op op_mulA pe_str pe_int)) (pa_cons (pe_lst (pa_cons pe_str pa_nil)) pa_nil))))))))) pa_nil))) (pg_sub (pv 1) pe_int set_list)))
   pss_nil)
  (pss_cons (ps_if (pt_cmpR (op_eqA K hr.units) (pv 4) pe_int (nomark _))
   (pss_one (ps_asg (pe_cA c_law_of hr (by omega) rfl (pa_cons (pv 0) (pa_cons (pe_lst (pa_cons pe_str (pa_cons pe_str (pa_cons pe_str (pa_cons pe_bl (pa_cons pe_int (pa_cons (pe_op (op_addA K) pe_str (pe_op op_mulA pe_str pe_int)) (pa_cons (pe_op (op_addA K) pe_str (pe_op op_mulA pe_str pe_int)) (pa_cons (pe_tup (pa_cons pe_str pa_nil)) pa_nil))))))))) pa_nil))) (pg_sub (pv 1) pe_int set_list)))
   pss_nil)
  (pss_cons (ps_if (pt_cmpR (op_eqA K hr.units) (pv 4) pe_int (nomark _))
   (pss_one (ps_set (i := 1) sc_law_near.nd rfl (Or.inl rfl) (pe_slice (sl_A K) (pv 1) po_none (po_some (pe_cA c_law_take hr (by omega) rfl (pa_cons (pv 0) (pa_cons pe_int pa_nil)))))))
   pss_nil)
  (pss_cons (ps_if (pt_cmpR (op_eqA K hr.units) (pv 4) pe_int (nomark _))
   (pss_one (ps_expr (pe_appendA K (pe_bm PySem.F.plainAttrs_list PySem.F.slot_list_append PySem.F.type_list_append mt_append (pv 1) (pa_cons (pe_cA c_law_of hr (by omega) rfl (pa_cons (pv 0) (pa_cons (pe_lst (pa_cons pe_non (pa_cons pe_str pa_nil))) pa_nil))) pa_nil)))))
   pss_nil)
  (pss_one (ps_ret (pe_ifExp (pt_cmpR (op_eqA K hr.units) (pv 4) pe_int (nomark _)) (pv 1) (pe_callTy (call_tupleA K) rfl B.tuple (by decide +kernel) (pa_cons (pv 1) pa_nil))))))))))))), ?_⟩
    walk_at "rd"
    refine ⟨b, _, n, rfl, hb, by omega, by decide, by decide, fun d0 H1 _ _ r1 => ?_⟩
    walk_at "rd"
    refine iteD (fun h1 => ?_) (fun h1 => ?_)
    · walk_at "rd"
      refine ⟨b, _, n + 1, rfl, r1.bag, by omega, by decide, by decide, fun m0 H2 hm0 hm1 r2 => ?_⟩
      obtain ⟨m, rfl⟩ := Int.eq_ofNat_of_zero_le hm0
      replace r2 := r1.trans r2
      refine ⟨_, rfl, by omega, by omega, fun L hL => ?_⟩
      refine lc_draw (m := (m : Int).toNat) (c := 1) hL r2.bag (by omega) (fun _ v => ∀ G, Dv K G 0 v) (fun _ _ _ _ h => h) ?_ ?_ ?_
      · exact fun _ => rfl
      · intro i H' hi r3 Q' q
        walk_at "rx"
        refine ⟨by show 6 ≤ sizeLine; decide, fun p hp => ?_⟩
        obtain ⟨r4, hp4⟩ := r3.bag.new (o := .lst [.non, .int 0, .int (-5), .int (10 ^ (39 : Int).toNat), .str "", .str "ab"]) hp
        walk_at "rd"
        refine ⟨b, _, _, rfl, r4.bag, by omega, .inl ⟨p, _, rfl, .inl (SqL.of hp4), by simp, by simp, fun y hy H3 r5 => ?_⟩⟩
        refine q _ _ ?_ (r4.trans r5)
        simp only [List.mem_cons, List.not_mem_nil, or_false] at hy
        intro G
        rcases hy with rfl | rfl | rfl | rfl | rfl | rfl
        · exact dv_non
        · exact dv_int
        · exact dv_int
        · exact dv_int
        · exact str_dv (by decide +kernel) (by decide +kernel)
        · exact str_dv (by decide +kernel) (by decide +kernel)
      · intro H3 xs hxl hI hL3 nLb r3
        have hI : ∀ v ∈ xs, ∀ G, Dv K G 0 v := fun v hv => hI v hv
        have hn3 : nov H H3 L = some (.lst xs) := nov_of (r2.dom hL) hL3
        replace r3 := r2.trans r3
        walk_at "rx"
        -- wrong = of(bag, [..])
        refine ⟨by show 1 ≤ sizeLine; decide, fun p1 hp1 => ?_⟩
        obtain ⟨r4, hq4⟩ := r3.bag.new (o := .lst [.int 1]) hp1
        have hq1 : nov H (upd H3 p1 (.lst [.int 1])) p1 = some (.lst [.int 1]) := nov_of (r3.dom hp1) upd_same
        have e4 := r4.novm hb.some
        replace r4 := r3.trans r4
        generalize upd H3 p1 (HO.lst _) = H4 at r4 hq1 e4 ⊢
        replace hn3 := e4 _ _ hn3
        walk_at "rx"
        refine ⟨by show 0 ≤ sizeLine; decide, fun p2 hp2 => ?_⟩
        obtain ⟨r5, _⟩ := r4.bag.new (o := .tup []) hp2
        have hq2 : nov H (upd H4 p2 (.tup [])) p2 = some (.tup []) := nov_of (r4.dom hp2) upd_same
        have e5 := r5.novm hb.some
        replace r5 := r4.trans r5
        generalize upd H4 p2 (HO.tup _) = H5 at r5 hq2 e5 ⊢
        replace hn3 := e5 _ _ hn3
        replace hq1 := e5 _ _ hq1
        walk_at "rx"
        refine ⟨by show 3 ≤ sizeLine; decide, fun p3 hp3 => ?_⟩
        obtain ⟨r6, _⟩ := r5.bag.new (o := .tup [.str "raises", .str "Error", .non]) hp3
        have hq3 : nov H (upd H5 p3 (.tup [.str "raises", .str "Error", .non])) p3 = some (.tup [.str "raises", .str "Error", .non]) := nov_of (r5.dom hp3) upd_same
        have e6 := r6.novm hb.some
        replace r6 := r5.trans r6
        generalize upd H5 p3 (HO.tup _) = H6 at r6 hq3 e6 ⊢
        replace hn3 := e6 _ _ hn3
        replace hq1 := e6 _ _ hq1
        replace hq2 := e6 _ _ hq2
        walk_at "rx"
        refine r_mulS (mulOk_a (by decide) (by decide) (by decide +kernel)) ?_
        walk_at "rx"
        refine r_mulS (mulOk_a (by decide) (by decide) (by decide +kernel)) ?_
        walk_at "rx"
        refine ⟨by show 10 ≤ sizeLine; decide, fun p4 hp4 => ?_⟩
        obtain ⟨r7, hq4'⟩ := r6.bag.new (o := .lst [.bl true, .str "aB", .ref p1, .ref p2, .ref p3, .str (Txt.mul "a" 30), .str (Txt.mul "a" 31), .int (-7), .str "1", .str " "]) hp4
        have e7 := r7.novm hb.some
        replace r7 := r6.trans r7
        generalize upd H6 p4 (HO.lst _) = H7 at r7 hq4' e7 ⊢
        replace hn3 := e7 _ _ hn3
        replace hq1 := e7 _ _ hq1
        replace hq2 := e7 _ _ hq2
        replace hq3 := e7 _ _ hq3
        walk_at "rx"
        refine ⟨b, _, _, rfl, r7.bag, by omega, .inl ⟨p4, _, rfl, .inl (SqL.of hq4'), by simp, by simp, fun wr hy H8 r8 => ?_⟩⟩
        have e8 := r8.novm hb.some
        have hwr : Dv K (nov H H8) 2 wr := by
          simp only [List.mem_cons, List.not_mem_nil, or_false] at hy
          rcases hy with rfl | rfl | rfl | rfl | rfl | rfl | rfl | rfl | rfl | rfl
          · exact dv_bl
          · exact str_dv (by decide +kernel) (by decide +kernel)
          · exact dv_lst (SqL.of (e8 _ _ hq1)) (by intro v hv; rw [List.mem_singleton.mp hv]; exact dv_int) (by simp)
          · exact dv_tup (SqT.of (e8 _ _ hq2)) (by intro v hv; cases hv) (by simp)
          · refine dv_tup (SqT.of (e8 _ _ hq3)) ?_ (by simp)
            intro v hv
            simp only [List.mem_cons, List.not_mem_nil, or_false] at hv
            rcases hv with rfl | rfl | rfl
            · exact str_dv (by decide +kernel) (by decide +kernel)
            · exact str_dv (by decide +kernel) (by decide +kernel)
            · exact dv_non
          · exact str_dv (by decide +kernel) (by decide +kernel)
          · exact str_dv (by decide +kernel) (by decide +kernel)
          · exact dv_int
          · exact str_dv (by decide +kernel) (by decide +kernel)
          · exact str_dv (by decide +kernel) (by decide +kernel)
        replace r8 := r7.trans r8
        replace hn3 := e8 _ _ hn3
        clear hq1 hq2 hq3 hq4' hq4 e4 e5 e6 e7 e8 r4 r5 r6 r7 hy
        -- found[:1] + [wrong] * take(bag, 2) + found[1:]
        walk_at "rx"
        refine r_slL (SqL.of (nov_get hn3).2) (fun l1 hl1 => ?_)
        obtain ⟨r9, _⟩ := r8.bag.new (o := .lst (cutV xs none (some 1))) hl1
        have hq1 : nov H (upd H8 l1 (.lst (cutV xs none (some 1)))) l1 = _ := nov_of (r8.dom hl1) upd_same
        have e9 := r9.novm hb.some
        replace r9 := r8.trans r9
        generalize upd H8 l1 (HO.lst _) = H9 at r9 hq1 e9 ⊢
        replace hn3 := e9 _ _ hn3
        replace hwr := Dv.mono e9 (Nat.le_refl _) hwr
        walk_at "rx"
        refine ⟨by show 1 ≤ sizeLine; decide, fun l2 hl2 => ?_⟩
        obtain ⟨r10, _⟩ := r9.bag.new (o := .lst [wr]) hl2
        have hq2 : nov H (upd H9 l2 (.lst [wr])) l2 = _ := nov_of (r9.dom hl2) upd_same
        have e10 := r10.novm hb.some
        replace r10 := r9.trans r10
        generalize upd H9 l2 (HO.lst _) = H10 at r10 hq2 e10 ⊢
        replace hn3 := e10 _ _ hn3
        replace hq1 := e10 _ _ hq1
        replace hwr := Dv.mono e10 (Nat.le_refl _) hwr
        walk_at "rx"
        refine ⟨b, _, _, rfl, r10.bag, by omega, by decide, by decide, fun dd H11 hdd0 hdd1 r11 => ?_⟩
        have e11 := r11.novm hb.some
        replace r11 := r10.trans r11
        replace hn3 := e11 _ _ hn3
        replace hq1 := e11 _ _ hq1
        replace hq2 := e11 _ _ hq2
        replace hwr := Dv.mono e11 (Nat.le_refl _) hwr
        have hdn : dd.toNat ≤ 1 := by omega
        have hfl : (List.replicate dd.toNat [wr]).flatten.length ≤ 1 := by
          rw [List.length_flatten, List.map_replicate, List.sum_replicate_nat]
          simp
          omega
        refine r_mulL (nov_get hq2).2 hdd0 (by omega) (by rw [sizeLine_eq]; show 1 * dd.toNat ≤ _; omega) (fun l3 hl3 => ?_)
        obtain ⟨r12, _⟩ := r11.bag.new (o := .lst (List.replicate dd.toNat [wr]).flatten) hl3
        have hq3 : nov H (upd H11 l3 (.lst (List.replicate dd.toNat [wr]).flatten)) l3 = _ := nov_of (r11.dom hl3) upd_same
        have e12 := r12.novm hb.some
        replace r12 := r11.trans r12
        generalize upd H11 l3 (HO.lst _) = H12 at r12 hq3 e12 ⊢
        replace hn3 := e12 _ _ hn3
        replace hq1 := e12 _ _ hq1
        replace hwr := Dv.mono e12 (Nat.le_refl _) hwr
        have hc1 := cutV_length xs none (some 1)
        refine r_addL (nov_get hq1).2 (nov_get hq3).2 (by rw [sizeLine_eq]; omega) (fun l4 hl4 => ?_)
        obtain ⟨r13, _⟩ := r12.bag.new (o := .lst (cutV xs none (some 1) ++ (List.replicate dd.toNat [wr]).flatten)) hl4
        have hq4 : nov H (upd H12 l4 (.lst (cutV xs none (some 1) ++ (List.replicate dd.toNat [wr]).flatten))) l4 = _ := nov_of (r12.dom hl4) upd_same
        have e13 := r13.novm hb.some
        replace r13 := r12.trans r13
        generalize upd H12 l4 (HO.lst _) = H13 at r13 hq4 e13 ⊢
        replace hn3 := e13 _ _ hn3
        replace hwr := Dv.mono e13 (Nat.le_refl _) hwr
        walk_at "rx"
        refine r_slL (SqL.of (nov_get hn3).2) (fun l5 hl5 => ?_)
        obtain ⟨r14, _⟩ := r13.bag.new (o := .lst (cutV xs (some 1) none)) hl5
        have hq5 : nov H (upd H13 l5 (.lst (cutV xs (some 1) none))) l5 = _ := nov_of (r13.dom hl5) upd_same
        have e14 := r14.novm hb.some
        replace r14 := r13.trans r14
        generalize upd H13 l5 (HO.lst _) = H14 at r14 hq5 e14 ⊢
        replace hq4 := e14 _ _ hq4
        replace hwr := Dv.mono e14 (Nat.le_refl _) hwr
        have hc2 := cutV_length xs (some 1) none
        refine r_addL (nov_get hq4).2 (nov_get hq5).2 (by rw [sizeLine_eq, List.length_append]; omega) (fun l6 hl6 => ?_)
        have r15 := (r14.bag.new (o := .lst ((cutV xs none (some 1) ++ (List.replicate dd.toNat [wr]).flatten) ++ cutV xs (some 1) none)) hl6).1
        refine kk _ _ ?_ ((r14.trans r15).mono (by omega))
        refine dv_lst (m := 2) (SqL.of (nov_of (r14.dom hl6) upd_same)) ?_ (by rw [List.length_append, List.length_append]; omega)
        intro v hv
        rcases List.mem_append.mp hv with hv | hv
        · rcases List.mem_append.mp hv with hv | hv
          · exact Dv.mono (Evl.Ex.refl _) (by omega) (hI v (mem_cutV hv) _)
          · obtain ⟨l, hl, hv⟩ := List.mem_flatten.mp hv
            rw [List.eq_of_mem_replicate hl] at hv
            rw [List.mem_singleton.mp hv]
            exact Dv.mono (r15.novm hb.some) (Nat.le_refl _) hwr
        · exact Dv.mono (Evl.Ex.refl _) (by omega) (hI v (mem_cutV hv) _)
    · walk_at "rd"
      refine ⟨b, _, rfl, r1.bag, by omega, fun z1 H2 hz1 r2 => ?_⟩
      replace r2 := r1.trans r2
      walk_at "rd"
      refine ⟨b, _, rfl, r2.bag, by omega, fun z2 H3 hz2 r3 => ?_⟩
      replace r3 := r2.trans r3
      walk_at "rd"
      refine ⟨by show 3 ≤ sizeLine; decide, fun p hp => ?_⟩
      obtain ⟨r4, hp4⟩ := r3.bag.new (o := .lst [.non, .str z2, .str "Error"]) hp
      replace r4 := r3.trans r4
      walk_at "rd"
      refine ⟨b, _, _, rfl, r4.bag, by omega, .inl ⟨p, _, rfl, .inl (SqL.of hp4), by simp, by simp, fun y hy H5 r5 => ?_⟩⟩
      replace r5 := r4.trans r5
      have hyv : ∀ G, Dv K G 0 y := by
        intro G
        simp only [List.mem_cons, List.not_mem_nil, or_false] at hy
        rcases hy with rfl | rfl | rfl
        · exact dv_non
        · exact cls_dv hz2
        · exact str_dv (by decide +kernel) (by decide +kernel)
      walk_at "rd"
      refine ⟨by show 3 ≤ sizeLine; decide, fun L hL => ?_⟩
      obtain ⟨r6, _⟩ := r5.bag.new (o := .lst [.str "raises", .str z1, y]) hL
      have hL0 : H L = none := r5.dom hL
      have nLb : L ≠ b := fun e => hb.some (e ▸ hL0)
      replace r6 := r5.trans r6
      have hL6 : upd H5 L (.lst [.str "raises", .str z1, y]) L = some (.lst [.str "raises", .str z1, y]) := upd_same
      generalize upd H5 L (HO.lst _) = H6 at r6 hL6 ⊢
      clear r2 r3 r4 r5 hp4
      have hx0 : ∀ G, ∀ v ∈ [V.str "raises", V.str z1, y], Dv K G 1 v := by
        intro G v hv
        simp only [List.mem_cons, List.not_mem_nil, or_false] at hv
        rcases hv with rfl | rfl | rfl
        · exact str_dv (by decide +kernel) (by decide +kernel)
        · exact cls_dv hz1
        · exact Dv.mono (Evl.Ex.refl _) (by omega) (hyv G)
      walk_at "rd"
      refine ⟨b, _, _, rfl, r6.bag, by omega, by decide, by decide, fun way H7 hw0 hw1 r7 => ?_⟩
      have hL7 : H7 L = some (.lst [.str "raises", .str z1, y]) := hid_get (r7.ex _ _ (hid_of hL6 nLb))
      replace r7 := r6.trans r7
      -- the end
      have finT : ∀ (Hc : Hp) (M : Addr) (xs : List V), Hc M = some (.lst xs) → H M = none → xs.length ≤ 1000 → (∀ v ∈ xs, Dv K (hid M (nov H Hc)) 1 v) → Drw b (n + 150) H Hc → rTupleA K [.ref M] Hc Q := by
        intro Hc M xs h1 h2 h3 h4 h5
        have h6 : ∀ v ∈ xs, Dv K (nov H Hc) 1 v := fun v hv => Dv.mono hid_ex (Nat.le_refl _) (h4 v hv)
        refine ⟨M, xs, rfl, .inl ⟨SqL.of h1, fun q hq => ?_⟩⟩
        obtain ⟨r8, _⟩ := h5.bag.new (o := .tup xs) hq
        refine kk _ _ (Dv.mono (Evl.Ex.refl _) (by omega) (dv_tup (m := 1) (SqT.of (nov_of (h5.dom hq) upd_same)) (fun v hv => Dv.mono (r8.novm hb.some) (Nat.le_refl _) (h6 v hv)) (by omega))) ((h5.trans r8).mono (by omega))
      have fin : ∀ (Hc : Hp) (M : Addr) (xs : List V) (wv : Int) (u2 u3 : Option V), Hc M = some (.lst xs) → H M = none → xs.length ≤ 1000 → (∀ v ∈ xs, Dv K (hid M (nov H Hc)) 1 v) → Drw b (n + 150) H Hc →
          tRet (tIf (tTest (tOp (rEqA K) (tVar 4) (tC (.int 5)))) (tVar 1) (tCB (rTupleA K) (tCons (tVar 1) tNil))) { nx := fun _ H' => Q .non H', rt := Q } [some (.ref b), some (.ref M), u2, u3, some (.int wv)] Hc := by
        intro Hc M xs wv u2 u3 h1 h2 h3 h4 h5
        have h6 : ∀ v ∈ xs, Dv K (nov H Hc) 1 v := fun v hv => Dv.mono hid_ex (Nat.le_refl _) (h4 v hv)
        walk_at "rd"
        refine iteD (fun h7 => ?_) (fun h7 => ?_)
        · walk_at "rd"
          refine kk _ _ (Dv.mono (Evl.Ex.refl _) (by omega) (dv_lst (SqL.of (nov_of h2 h1)) h6 (by omega))) (h5.mono (by omega))
        · walk_at "rd"
          exact finT Hc M xs h1 h2 h3 h4 h5
      -- a store into found
      have sto : ∀ (Hc : Hp) (j : Nat) (v : V), j < 3 → Hc L = some (.lst [.str "raises", .str z1, y]) → Dv K (hid L (nov H Hc)) 1 v → ∀ x ∈ ([V.str "raises", V.str z1, y].set j v), Dv K (hid L (nov H (upd Hc L (.lst ([V.str "raises", V.str z1, y].set j v))))) 1 x := by
        intro Hc j v hj _ h2 x hx
        rw [hid_nov_upd]
        rcases List.mem_or_eq_of_mem_set hx with h | h
        · exact hx0 _ x h
        · rw [h]; exact h2
      obtain rfl | rfl | rfl | rfl | rfl | h5 : way = 0 ∨ way = 1 ∨ way = 2 ∨ way = 3 ∨ way = 4 ∨ 5 ≤ way := by omega
      · walk_at "rx"
        refine ⟨by show 6 ≤ sizeLine; decide, fun q hq => ?_⟩
        obtain ⟨r8, hq8⟩ := r7.bag.new (o := .lst [.str "raise", .str "Raises", .non, .int 0, .str "", .bl true]) hq
        have hL8 := hid_get (r8.ex _ _ (hid_of hL7 nLb))
        replace r8 := r7.trans r8
        walk_at "rd"
        refine ⟨b, _, _, rfl, r8.bag, by omega, .inl ⟨q, _, rfl, .inl (SqL.of hq8), by simp, by simp, fun v hv H9 r9 => ?_⟩⟩
        have hL9 := hid_get (r9.ex _ _ (hid_of hL8 nLb))
        replace r9 := r8.trans r9
        walk_at "rd"
        refine r_setL hL9 rfl ?_
        walk_at "rx"
        refine finT _ L _ upd_same hL0 (by simp) (sto _ 0 v (by omega) hL9 ?_) ((Drw.put r9 (hid_none hL0) nLb).mono (by omega))
        simp only [List.mem_cons, List.not_mem_nil, or_false] at hv
        rcases hv with rfl | rfl | rfl | rfl | rfl | rfl
        · exact str_dv (by decide +kernel) (by decide +kernel)
        · exact str_dv (by decide +kernel) (by decide +kernel)
        · exact dv_non
        · exact dv_int
        · exact str_dv (by decide +kernel) (by decide +kernel)
        · exact dv_bl
      · walk_at "rx"
        refine r_mulS (mulOk_a (by decide) (by decide) (by decide +kernel)) ?_
        walk_at "rx"
        refine r_addS (by decide +kernel) ?_
        walk_at "rx"
        refine r_mulS (mulOk_a (by decide) (by decide) (by decide +kernel)) ?_
        walk_at "rx"
        refine r_addS (by decide +kernel) ?_
        walk_at "rx"
        refine ⟨by show 1 ≤ sizeLine; decide, fun q0 hq0 => ?_⟩
        obtain ⟨r8, hq80⟩ := r7.bag.new (o := .lst [.str "Error"]) hq0
        have hL8 := hid_get (r8.ex _ _ (hid_of hL7 nLb))
        have hq8 : hid L (nov H (upd H7 q0 (.lst [.str "Error"]))) q0 = some (.lst [.str "Error"]) := hid_of (nov_of (r7.dom hq0) upd_same) (ne_of_none hL7 hq0).symm
        replace r8 := r7.trans r8
        generalize upd H7 q0 (HO.lst _) = H8 at r8 hL8 hq8 ⊢
        walk_at "rx"
        refine ⟨by show 8 ≤ sizeLine; decide, fun q hq => ?_⟩
        obtain ⟨r9, hq9⟩ := r8.bag.new (o := .lst [.non, .str "", .str "error", .str "E1", .bl true, .str ("E" ++ Txt.mul "a" 12), .str ("E" ++ Txt.mul "a" 11), .ref q0]) hq
        have hL9 := hid_get (r9.ex _ _ (hid_of hL8 nLb))
        replace hq8 := hid_mono (r9.novm hb.some) _ _ hq8
        replace r9 := r8.trans r9
        walk_at "rd"
        refine ⟨b, _, _, rfl, r9.bag, by omega, .inl ⟨q, _, rfl, .inl (SqL.of hq9), by simp, by simp, fun v hv H10 r10 => ?_⟩⟩
        have hL10 := hid_get (r10.ex _ _ (hid_of hL9 nLb))
        replace hq8 := hid_mono (r10.novm hb.some) _ _ hq8
        replace r10 := r9.trans r10
        walk_at "rd"
        refine r_setL hL10 rfl ?_
        walk_at "rx"
        refine finT _ L _ upd_same hL0 (by simp) (sto _ 1 v (by omega) hL10 ?_) ((Drw.put r10 (hid_none hL0) nLb).mono (by omega))
        simp only [List.mem_cons, List.not_mem_nil, or_false] at hv
        rcases hv with rfl | rfl | rfl | rfl | rfl | rfl | rfl | rfl
        · exact dv_non
        · exact str_dv (by decide +kernel) (by decide +kernel)
        · exact str_dv (by decide +kernel) (by decide +kernel)
        · exact str_dv (by decide +kernel) (by decide +kernel)
        · exact dv_bl
        · exact str_dv (by decide +kernel) (by decide +kernel)
        · exact str_dv (by decide +kernel) (by decide +kernel)
        · exact dv_lst (SqL.of hq8) (by intro v hv; rw [List.mem_singleton.mp hv]; exact str_dv (by decide +kernel) (by decide +kernel)) (by simp)
      · walk_at "rx"
        refine r_mulS (mulOk_a (by decide) (by decide) (by decide +kernel)) ?_
        walk_at "rx"
        refine r_addS (by decide +kernel) ?_
        walk_at "rx"
        refine r_mulS (mulOk_a (by decide) (by decide) (by decide +kernel)) ?_
        walk_at "rx"
        refine r_addS (by decide +kernel) ?_
        walk_at "rx"
        refine ⟨by show 1 ≤ sizeLine; decide, fun q0 hq0 => ?_⟩
        obtain ⟨r8, hq80⟩ := r7.bag.new (o := .tup [.str "Error"]) hq0
        have hL8 := hid_get (r8.ex _ _ (hid_of hL7 nLb))
        have hq8 : hid L (nov H (upd H7 q0 (.tup [.str "Error"]))) q0 = some (.tup [.str "Error"]) := hid_of (nov_of (r7.dom hq0) upd_same) (ne_of_none hL7 hq0).symm
        replace r8 := r7.trans r8
        generalize upd H7 q0 (HO.tup _) = H8 at r8 hL8 hq8 ⊢
        walk_at "rx"
        refine ⟨by show 8 ≤ sizeLine; decide, fun q hq => ?_⟩
        obtain ⟨r9, hq9⟩ := r8.bag.new (o := .lst [.str "", .str "error", .str "E1", .bl true, .int 0, .str ("E" ++ Txt.mul "a" 12), .str ("E" ++ Txt.mul "a" 11), .ref q0]) hq
        have hL9 := hid_get (r9.ex _ _ (hid_of hL8 nLb))
        replace hq8 := hid_mono (r9.novm hb.some) _ _ hq8
        replace r9 := r8.trans r9
        walk_at "rd"
        refine ⟨b, _, _, rfl, r9.bag, by omega, .inl ⟨q, _, rfl, .inl (SqL.of hq9), by simp, by simp, fun v hv H10 r10 => ?_⟩⟩
        have hL10 := hid_get (r10.ex _ _ (hid_of hL9 nLb))
        replace hq8 := hid_mono (r10.novm hb.some) _ _ hq8
        replace r10 := r9.trans r10
        walk_at "rd"
        refine r_setL hL10 rfl ?_
        walk_at "rx"
        refine finT _ L _ upd_same hL0 (by simp) (sto _ 2 v (by omega) hL10 ?_) ((Drw.put r10 (hid_none hL0) nLb).mono (by omega))
        simp only [List.mem_cons, List.not_mem_nil, or_false] at hv
        rcases hv with rfl | rfl | rfl | rfl | rfl | rfl | rfl | rfl
        · exact str_dv (by decide +kernel) (by decide +kernel)
        · exact str_dv (by decide +kernel) (by decide +kernel)
        · exact str_dv (by decide +kernel) (by decide +kernel)
        · exact dv_bl
        · exact dv_int
        · exact str_dv (by decide +kernel) (by decide +kernel)
        · exact str_dv (by decide +kernel) (by decide +kernel)
        · exact dv_tup (SqT.of hq8) (by intro v hv; rw [List.mem_singleton.mp hv]; exact str_dv (by decide +kernel) (by decide +kernel)) (by simp)
      · walk_at "rx"
        refine ⟨b, _, _, rfl, r7.bag, by omega, by decide, by decide, fun dd H8 hdd0 hdd1 r8 => ?_⟩
        have hL8 := hid_get (r8.ex _ _ (hid_of hL7 nLb))
        replace r8 := r7.trans r8
        walk_at "rd"
        refine r_slL (SqL.of hL8) (fun l hl => ?_)
        have r9 := (r8.bag.new (o := .lst (cutV [.str "raises", .str z1, y] none (some dd))) hl).1
        have hc := cutV_length [V.str "raises", .str z1, y] none (some dd)
        walk_at "rx"
        refine finT _ l _ upd_same (r8.dom hl) (by simp at hc; omega) (fun v hv => hx0 _ v (mem_cutV hv)) ((r8.trans r9).mono (by omega))
      · walk_at "rx"
        refine r_tyL (SqL.of hL7) ?_
        walk_at "rx"
        refine ⟨by show 2 ≤ sizeLine; decide, fun q hq => ?_⟩
        obtain ⟨r8, hq8⟩ := r7.bag.new (o := .lst [.non, .str "Error"]) hq
        have hL8 := hid_get (r8.ex _ _ (hid_of hL7 nLb))
        replace r8 := r7.trans r8
        walk_at "rd"
        refine ⟨b, _, _, rfl, r8.bag, by omega, .inl ⟨q, _, rfl, .inl (SqL.of hq8), by simp, by simp, fun v hv H9 r9 => ?_⟩⟩
        have hL9 := hid_get (r9.ex _ _ (hid_of hL8 nLb))
        replace r9 := r8.trans r9
        walk_at "rd"
        refine r_app hL9 (by show 3 < sizeLine; decide) ?_
        walk_at "rx"
        refine finT _ L _ upd_same hL0 (by show 4 ≤ 1000; omega) ?_ ((Drw.put r9 (hid_none hL0) nLb).mono (by omega))
        intro x hx
        rw [hid_nov_upd]
        rcases List.mem_append.mp hx with hx | hx
        · exact hx0 _ x hx
        · rw [List.mem_singleton.mp hx]
          simp only [List.mem_cons, List.not_mem_nil, or_false] at hv
          rcases hv with rfl | rfl
          · exact dv_non
          · exact str_dv (by decide +kernel) (by decide +kernel)
      · walk_at "rd"
        refine iteN (by intro e; injection e with e; omega) ?_
        walk_at "rd"
        refine iteN (by intro e; injection e with e; omega) ?_
        walk_at "rd"
        refine iteN (by intro e; injection e with e; omega) ?_
        walk_at "rd"
        refine iteN (by intro e; injection e with e; omega) ?_
        walk_at "rd"
        refine iteN (by intro e; injection e with e; omega) ?_
        refine r_next ?_
        exact fin _ L _ _ _ _ hL7 hL0 (by simp) (hx0 _) (r7.mono (by omega))
end

end WP

set_option Elab.async false
set_option linter.all false
set_option maxRecDepth 100000
set_option maxHeartbeats 4000000
namespace WP
open PySem PySem.Spec PyProof.Rows L2
local macro_rules | `(tactic| walk_at "rd") => `(tactic| repeat (first
  | with_reducible refine r_seq ?_ | with_reducible refine r_var rfl ?_ | with_reducible refine r_c ?_ | with_reducible refine r_op ?_ | with_reducible refine r_cons ?_ | with_reducible refine r_nil ?_
  | with_reducible refine r_cb ?_ | with_reducible refine r_call ?_ | with_reducible refine r_test ?_ | with_reducible refine r_B ?_ | with_reducible refine r_bl ?_ | with_reducible refine r_asg ?_ | with_reducible refine r_asgS ?_
  | with_reducible refine r_ret ?_ | with_reducible refine r_drop ?_ | with_reducible refine r_ifS ?_ | with_reducible refine r_if ?_ | with_reducible refine r_and ?_ | with_reducible refine r_or ?_ | with_reducible refine r_not ?_
  | with_reducible refine r_andV ?_ | with_reducible refine r_orV ?_ | with_reducible refine r_notV ?_ | with_reducible refine r_chain ?_ | with_reducible refine r_sl ?_ | with_reducible refine r_nopart ?_ | with_reducible refine r_part ?_
  | with_reducible refine r_intO ?_ | with_reducible refine r_two ?_ | with_reducible refine r_m1 ?_ | with_reducible refine r_bm ?_ | with_reducible refine r_next ?_ | with_reducible refine r_for ?_ | with_reducible refine r_rng1 ?_ | with_reducible refine r_iList ?_ | with_reducible refine r_iAny ?_ | with_reducible refine r_lc ?_ | with_reducible refine r_yes ?_ | with_reducible refine r_gN ?_ | with_reducible refine r_par ?_ | with_reducible refine r_un ?_ | with_reducible refine r_brk ?_ | with_reducible refine r_cont ?_
  | with_reducible refine r_I0 ?_ | with_reducible refine r_U ?_ | with_reducible refine r_addI ?_ | with_reducible refine r_abs ?_ | with_reducible refine r_intI ?_ | with_reducible refine r_max2 ?_ | with_reducible refine r_min2 ?_
  | with_reducible refine r_ltI ?_ | with_reducible refine r_leI ?_ | with_reducible refine r_gtI ?_ | with_reducible refine r_geI ?_ | with_reducible refine r_isN_non ?_ | with_reducible refine r_isN_int ?_ | with_reducible refine r_isN_str ?_ | with_reducible refine r_isN_bl ?_ | with_reducible refine r_isN_ref ?_ | with_reducible refine r_isN ?_ | with_reducible refine r_isB ?_ | with_reducible refine r_isnotN_non ?_ | with_reducible refine r_isnotN_int ?_ | with_reducible refine r_isnotN_str ?_ | with_reducible refine r_isnotN_bl ?_ | with_reducible refine r_isnotN_ref ?_ | with_reducible refine r_isnotN ?_ | with_reducible refine r_isnotB ?_
  | with_reducible refine r_inS ?_ | with_reducible refine r_eqS rfl ?_ | with_reducible refine r_neS rfl ?_ | with_reducible refine r_lst ?_ | with_reducible refine r_tup ?_ | with_reducible refine iteT ?_ | with_reducible refine iteF ?_))
local macro_rules | `(tactic| walk_at "isi") => `(tactic| (first
  | with_reducible refine r_isi_non_int ?_
  | with_reducible refine r_isi_non_str ?_
  | with_reducible refine r_isi_non_list ?_
  | with_reducible refine r_isi_non_tuple ?_
  | with_reducible refine r_isi_non_bool ?_
  | with_reducible refine r_isi_bl_int ?_
  | with_reducible refine r_isi_bl_str ?_
  | with_reducible refine r_isi_bl_list ?_
  | with_reducible refine r_isi_bl_tuple ?_
  | with_reducible refine r_isi_bl_bool ?_
  | with_reducible refine r_isi_int_int ?_
  | with_reducible refine r_isi_int_str ?_
  | with_reducible refine r_isi_int_list ?_
  | with_reducible refine r_isi_int_tuple ?_
  | with_reducible refine r_isi_int_bool ?_
  | with_reducible refine r_isi_str_int ?_
  | with_reducible refine r_isi_str_str ?_
  | with_reducible refine r_isi_str_list ?_
  | with_reducible refine r_isi_str_tuple ?_
  | with_reducible refine r_isi_str_bool ?_
  | with_reducible refine r_isi_lst_int (SqL.of (by assumption)) ?_
  | with_reducible refine r_isi_lst_str (SqL.of (by assumption)) ?_
  | with_reducible refine r_isi_lst_list (SqL.of (by assumption)) ?_
  | with_reducible refine r_isi_lst_tuple (SqL.of (by assumption)) ?_
  | with_reducible refine r_isi_lst_bool (SqL.of (by assumption)) ?_
  | with_reducible refine r_isi_tup_int (SqT.of (by assumption)) ?_
  | with_reducible refine r_isi_tup_str (SqT.of (by assumption)) ?_
  | with_reducible refine r_isi_tup_list (SqT.of (by assumption)) ?_
  | with_reducible refine r_isi_tup_tuple (SqT.of (by assumption)) ?_
  | with_reducible refine r_isi_tup_bool (SqT.of (by assumption)) ?_))
local macro_rules | `(tactic| walk_at "rs") => `(tactic| (first
  | ((with_reducible refine iteTc ?hc ?_); (case hc => rfl)) | ((with_reducible refine iteFc ?hc ?_); (case hc => rfl))
  | walk_at "isi"
  | refine r_ixL (SqL.of (by assumption)) rfl ?_ | refine r_ixL (SqL.of upd_same) rfl ?_
  | refine r_I (C := fun _ j => 0 < j) (by first | decide | assumption | omega) ?_
  | refine r_mulI (.inl ⟨by decide, by decide⟩) ?_ | refine r_mulI (.inr ⟨by decide, by decide⟩) ?_ | refine r_mulI (.inr ⟨by omega, by omega⟩) ?_ | refine r_mulI (.inl ⟨by omega, by omega⟩) ?_
  | refine r_I (wide_div (b := 64) (by decide) (by decide) (by decide) (by decide)) ?_
  | refine r_I (C := CPow) ⟨by decide, by decide, by decide⟩ ?_
  | refine r_setL (by assumption) rfl ?_ | refine r_setL upd_same rfl ?_))
local macro_rules | `(tactic| walk_at "rx") => `(tactic| (walk_at "rd"; (repeat (walk_at "rs"; walk_at "rd"))))

def spLaw (K : PySem.W.Frag) : Sp := fun vs H Q _ => ∃ (a : Addr) (ns : List Int), vs = [.ref a] ∧ SqL K H a (ns.map V.int) ∧ ns.length ≤ 63 ∧ ∀ H', Q (.bl true) H'
abbrev s_law : Stmt := top 24
abbrev N_law : List Str := ["_law_script", "_law_at", "_law_bag_here", "_law_some", "_law_thing", "_law_told", "_law_due"]
theorem sc_law : FnScope N_law ["_law_script"] (defScope s_law) := ⟨rfl, rfl, rfl, by decide +kernel, rfl, by decide +kernel, by decide +kernel⟩
section
variable {P : Program} {w : World} {K : PySem.W.Frag} {mg : Str → Option Value} {base : Heap}
theorem c_law {f : Addr} {fd : FuncData} (F : FunD K "law" "law" (defArgs s_law) (defBody s_law) (defScope s_law) [] [] f fd) (B : Bl mg) (c_law_take : Cal P w K mg base 1 "_law_take" spTake) (c_law_of : Cal P w K mg base 2 "_law_of" (spOf K))
    (c_law_word : Cal P w K mg base 3 "_law_word" spWord) (c_law_any : Cal P w K mg base 7 "_law_any" (spAny K 3)) (c_law_near : Cal P w K mg base 4 "_law_near" (spNear K)) (c_law_number : Cal P w K mg base 3 "_law_number" spNumber) (c_law_bag : Cal P w K mg base 1 "_law_bag" (spBag K))
    (c_is_item : Cal P w K mg base 2 "is_item" (spB1 K isItemD)) (c_is_answer : Cal P w K mg base 3 "is_answer" (spB1 K isAnswerD)) (c_law_is_item : Cal P w K mg base 2 "_law_is_item" (spB1 K isItemD)) (c_law_is_answer : Cal P w K mg base 3 "_law_is_answer" (spB1 K isAnswerD)) : FnOk P w K mg base L2.CX0 8 f fd ["_law_script"] (spLaw K) := by
  refine fnok_of F sc_law (fun vs H Q E h => ?_) (fun cdv A outer s H vs Q E hr h => ?_)
  · obtain ⟨a, ns, rfl, _⟩ := h
    rfl
  · obtain ⟨a, ns, rfl, hs, hns, k⟩ := h
    refine ⟨_, (pss_cons (ps_for PassesOwn.never rfl (pi_range1 rfl B.range (pa_cons (pe_callB (call_max2A rfl) rfl B.max (by decide +kernel) (pa_cons pe_int (pa_cons (pe_callB (call_min2A rfl) rfl B.min (by decide +kernel) (pa_cons pe_int (pa_cons (pe_callB (call_lenA K) rfl B.len (by decide +kernel) (pa_cons (pv 0) pa_nil)) pa_nil))) pa_nil))) pa_nil)) (pg_name (i := 1) sc_law.nd rfl (Or.inl rfl))
   (pss_cons (ps_set (i := 2) sc_law.nd rfl (Or.inl rfl) (pe_cA c_law_bag hr (by omega) rfl (pa_cons (pv 0) (pa_cons (pv 1) pa_nil))))
  (pss_cons (ps_set (i := 3) sc_law.nd rfl (Or.inl rfl) (pe_lst (pa_cons (pe_cA c_law_any hr (by omega) rfl (pa_cons (pv 2) (pa_cons pe_int pa_nil))) (pa_cons (pe_cA c_law_near hr (by omega) rfl (pa_cons (pv 2) pa_nil)) (pa_cons (pe_cA c_law_near hr (by omega) rfl (pa_cons (pv 2) pa_nil)) (pa_cons (pe_cA c_law_word hr (by omega) rfl (pa_cons (pv 2) (pa_cons pe_int pa_nil))) (pa_cons (pe_cA c_law_number hr (by omega) rfl (pa_cons (pv 2) (pa_cons (pe_lst pa_nil) pa_nil))) pa_nil)))))))
  (pss_one (ps_for PassesOwn.never rfl (pi_any K (pe_op (op_addA K) (pv 3) (pe_lst (pa_cons pe_bl (pa_cons pe_bl (pa_cons pe_non (pa_cons pe_int (pa_cons pe_int (pa_cons pe_str (pa_cons (pe_lst pa_nil) (pa_cons (pe_tup pa_nil) pa_nil))))))))))) (pg_name (i := 4) sc_law.nd rfl (Or.inl rfl))
   (pss_cons (ps_set (i := 5) sc_law.nd rfl (Or.inl rfl) (pe_tup (pa_cons (pe_cA c_is_item hr (by omega) rfl (pa_cons (pv 4) pa_nil)) (pa_cons (pe_cA c_is_answer hr (by omega) rfl (pa_cons (pv 4) pa_nil)) pa_nil))))
  (pss_cons (ps_if (PW.pt (pw_or (PW.pt (pw_and (pt_cmpR op_isnotA (pe_ix (ix_A K) (pv 5) pe_int (fun _ _ => rfl)) pe_bl (nomark _)) (pw_and1 (pt_cmpR op_isnotA (pe_ix (ix_A K) (pv 5) pe_int (fun _ _ => rfl)) pe_bl (nomark _))))) (pw_or1 (PW.pt (pw_and (pt_cmpR op_isnotA (pe_ix (ix_A K) (pv 5) pe_int (fun _ _ => rfl)) pe_bl (nomark _)) (pw_and1 (pt_cmpR op_isnotA (pe_ix (ix_A K) (pv 5) pe_int (fun _ _ => rfl)) pe_bl (nomark _))))))))
   (pss_one (ps_ret pe_bl))
   pss_nil)
  (pss_cons (ps_set (i := 6) sc_law.nd rfl (Or.inl rfl) (pe_and (pe_not (pe_callB (call_isinstanceTA K) rfl B.isinstance (by decide +kernel) (pa_cons (pv 4) (pa_cons (pe_tup (pa_cons (pe_bltn (v := .ty "list") rfl B.list (by decide +kernel) rfl) (pa_cons (pe_bltn (v := .ty "tuple") rfl B.tuple (by decide +kernel) rfl) pa_nil))) pa_nil)))) (pe_one (pe_cA c_law_is_item hr (by omega) rfl (pa_cons (pv 4) pa_nil)))))
  (pss_one (ps_if (pt_cmpR (op_neA K hr.units) (pv 5) (pe_tup (pa_cons (pv 6) (pa_cons (pe_cA c_law_is_answer hr (by omega) rfl (pa_cons (pv 4) pa_nil)) pa_nil))) (nomark _))
   (pss_one (ps_ret pe_bl))
   pss_nil))))))))))
  (pss_one (ps_ret pe_bl))), ?_⟩
    walk_at "rd"
    refine r_lenL hs ?_
    walk_at "rd"
    rw [List.length_map]
    generalize hN : (if (if (ns.length : Int) < 16 then (ns.length : Int) else 16) > 1 then (if (ns.length : Int) < 16 then (ns.length : Int) else 16) else 1) = N
    have hN1 : N ≤ 63 := by rw [← hN]; split <;> split <;> omega
    have hN0 : 0 ≤ N := by rw [← hN]; split <;> split <;> omega
    refine ⟨_, rfl, by omega, by omega, for_range (lo := 0) (n := N.toNat) (fun i σ H' => ∃ u1 u2 u3 u4 u5 u6 : Option V, σ = [some (.ref a), u1, u2, u3, u4, u5, u6] ∧ Evl.Ex H H') ?_ ?_ ?_⟩
    · exact ⟨_, _, _, _, _, _, rfl, Evl.Ex.refl _⟩
    · rintro i σ H0 hi ⟨u1, u2, u3, u4, u5, u6, rfl, e0⟩
      walk_at "rd"
      refine ⟨a, ns, i, by rw [Int.zero_add]; rfl, Evl.ex_l e0 hs, by omega, hns, fun b l hb hl => ?_⟩
      have eb : hid b (upd H0 b (.lst l)) = H0 := hid_start hb
      generalize hH1 : upd H0 b (.lst l) = H1 at eb
      have b1 : Bag b 0 H1 := ⟨l, by rw [← hH1]; exact upd_same, hl⟩
      clear hH1
      walk_at "rd"
      refine ⟨b, 0, rfl, b1, by decide, fun v1 H2 hv1 r2 => ?_⟩
      replace hv1 := Dv.mono (nov_hidb b1.some) (Nat.le_refl _) hv1
      walk_at "rd"
      refine ⟨b, _, rfl, r2.bag, by simp [anyCost], fun v2 H3 hv2 r3 => ?_⟩
      replace hv2 := Dv.mono (nov_hidb r2.bag.some) (Nat.le_refl _) hv2
      replace hv1 := Dv.mono r3.ex (Nat.le_refl _) hv1
      replace r3 := r2.trans r3
      walk_at "rd"
      refine ⟨b, _, rfl, r3.bag, by simp [anyCost], fun v3 H4 hv3 r4 => ?_⟩
      replace hv3 := Dv.mono (nov_hidb r3.bag.some) (Nat.le_refl _) hv3
      replace hv1 := Dv.mono r4.ex (Nat.le_refl _) hv1
      replace hv2 := Dv.mono r4.ex (Nat.le_refl _) hv2
      replace r4 := r3.trans r4
      walk_at "rd"
      refine ⟨b, 31, _, rfl, r4.bag, by simp [anyCost], by omega, fun z H5 hz r5 => ?_⟩
      replace hv1 := Dv.mono r5.ex (Nat.le_refl _) hv1
      replace hv2 := Dv.mono r5.ex (Nat.le_refl _) hv2
      replace hv3 := Dv.mono r5.ex (Nat.le_refl _) hv3
      replace r5 := r4.trans r5
      walk_at "rd"
      refine ⟨Nat.zero_le _, fun p hp => ?_⟩
      obtain ⟨r6, hp6⟩ := r5.bag.new (o := .lst []) hp
      generalize upd H5 p (HO.lst _) = H6 at r6 hp6 ⊢
      replace hv1 := Dv.mono r6.ex (Nat.le_refl _) hv1
      replace hv2 := Dv.mono r6.ex (Nat.le_refl _) hv2
      replace hv3 := Dv.mono r6.ex (Nat.le_refl _) hv3
      replace r6 := r5.trans r6
      walk_at "rd"
      refine ⟨b, p, _, [], rfl, r6.bag, by simp [anyCost], hp6, by simp, fun nn H7 hnn r7 => ?_⟩
      replace hv1 := Dv.mono r7.ex (Nat.le_refl _) hv1
      replace hv2 := Dv.mono r7.ex (Nat.le_refl _) hv2
      replace hv3 := Dv.mono r7.ex (Nat.le_refl _) hv3
      replace r7 := r6.trans r7
      walk_at "rd"
      refine ⟨by show 5 ≤ sizeLine; decide, fun q1 hq1 => ?_⟩
      obtain ⟨r8, hq8⟩ := r7.bag.new (o := .lst [v1, v2, v3, .str z, .int nn]) hq1
      generalize upd H7 q1 (HO.lst _) = H8 at r8 hq8 ⊢
      replace hv1 := Dv.mono r8.ex (Nat.le_refl _) hv1
      replace hv2 := Dv.mono r8.ex (Nat.le_refl _) hv2
      replace hv3 := Dv.mono r8.ex (Nat.le_refl _) hv3
      replace r8 := r7.trans r8
      clear r2 r3 r4 r5 r6 r7 hp6
      walk_at "rd"
      -- for thing in some + [True, False, None, 1, 0, "", [], ()]
      refine ⟨Nat.zero_le _, fun q2 hq2 => ?_⟩
      obtain ⟨r9, hq9⟩ := r8.bag.new (o := .lst []) hq2
      generalize upd H8 q2 (HO.lst _) = H9 at r9 hq9 ⊢
      replace hv1 := Dv.mono r9.ex (Nat.le_refl _) hv1
      replace hv2 := Dv.mono r9.ex (Nat.le_refl _) hv2
      replace hv3 := Dv.mono r9.ex (Nat.le_refl _) hv3
      replace hq8 := r9.ex _ _ hq8
      replace r9 := r8.trans r9
      walk_at "rd"
      refine ⟨Nat.zero_le _, fun q3 hq3 => ?_⟩
      obtain ⟨r10, hq10⟩ := r9.bag.new (o := .tup []) hq3
      generalize upd H9 q3 (HO.tup _) = H10 at r10 hq10 ⊢
      replace hv1 := Dv.mono r10.ex (Nat.le_refl _) hv1
      replace hv2 := Dv.mono r10.ex (Nat.le_refl _) hv2
      replace hv3 := Dv.mono r10.ex (Nat.le_refl _) hv3
      replace hq8 := r10.ex _ _ hq8
      replace hq9 := r10.ex _ _ hq9
      replace r10 := r9.trans r10
      walk_at "rd"
      refine ⟨by show 8 ≤ sizeLine; decide, fun q4 hq4 => ?_⟩
      obtain ⟨r11, hq11⟩ := r10.bag.new (o := .lst [.bl true, .bl false, .non, .int 1, .int 0, .str "", .ref q2, .ref q3]) hq4
      generalize upd H10 q4 (HO.lst _) = H11 at r11 hq11 ⊢
      replace hv1 := Dv.mono r11.ex (Nat.le_refl _) hv1
      replace hv2 := Dv.mono r11.ex (Nat.le_refl _) hv2
      replace hv3 := Dv.mono r11.ex (Nat.le_refl _) hv3
      replace hq8 := r11.ex _ _ hq8
      replace hq9 := r11.ex _ _ hq9
      replace hq10 := r11.ex _ _ hq10
      replace r11 := r10.trans r11
      refine r_addL (hid_get hq8) (hid_get hq11) (by show 5 + 8 ≤ sizeLine; decide) (fun M hM => ?_)
      obtain ⟨r12, hM12⟩ := r11.bag.new (o := .lst ([v1, v2, v3, .str z, .int nn] ++ [.bl true, .bl false, .non, .int 1, .int 0, .str "", .ref q2, .ref q3])) hM
      generalize upd H11 M (HO.lst _) = H12 at r12 hM12 ⊢
      replace hv1 := Dv.mono r12.ex (Nat.le_refl _) hv1
      replace hv2 := Dv.mono r12.ex (Nat.le_refl _) hv2
      replace hv3 := Dv.mono r12.ex (Nat.le_refl _) hv3
      replace hq9 := r12.ex _ _ hq9
      replace hq10 := r12.ex _ _ hq10
      replace r12 := r11.trans r12
      have hall : ∀ v ∈ [v1, v2, v3, .str z, .int nn] ++ [.bl true, .bl false, .non, .int 1, .int 0, .str "", .ref q2, .ref q3], Dv K (hid b H12) 3 v := by
        intro v hv
        simp only [List.cons_append, List.nil_append, List.mem_cons, List.not_mem_nil, or_false] at hv
        rcases hv with rfl | rfl | rfl | rfl | rfl | rfl | rfl | rfl | rfl | rfl | rfl | rfl | rfl
        · exact hv1
        · exact hv2
        · exact hv3
        · exact word_dv hz (by omega)
        · exact dv_int
        · exact dv_bl
        · exact dv_bl
        · exact dv_non
        · exact dv_int
        · exact dv_int
        · exact str_dv (by decide +kernel) (by decide +kernel)
        · exact Dv.mono (Evl.Ex.refl _) (by omega) (dv_lst (m := 0) (SqL.of hq9) (by intro v hv; cases hv) (by simp))
        · exact Dv.mono (Evl.Ex.refl _) (by omega) (dv_tup (m := 0) (SqT.of hq10) (by intro v hv; cases hv) (by simp))
      have e12 : Evl.Ex H0 H12 := by
        rw [← eb]
        exact r12.ex.trans hid_ex
      clear r8 r9 r10 r11 hv1 hv2 hv3 hq8 hq9 hq10 hq11
      generalize hxs : ([v1, v2, v3, V.str z, .int nn] ++ [.bl true, .bl false, .non, .int 1, .int 0, .str "", .ref q2, .ref q3]) = xs at hM12 hall
      refine .inl ⟨M, rfl, ⟨_, SqL.of (hid_get hM12)⟩, for_list (K := K) (a := M) (xs := xs) (fun i σ H' => ∃ u1 u2 u3 u4 u5 u6 : Option V, σ = [some (.ref a), u1, u2, u3, u4, u5, u6] ∧ Evl.Ex H12 H') ?_ ?_ ?_ ?_⟩
      · exact ⟨_, _, _, _, _, _, rfl, Evl.Ex.refl _⟩
      · rintro i σ H' _ ⟨_, _, _, _, _, _, _, e⟩
        exact SqL.of (e _ _ (hid_get hM12))
      · rintro j x σ H13 hx ⟨u1, u2, u3, u4, u5, u6, rfl, e13⟩
        obtain ⟨d, hd, hf, _⟩ := Dv.mono (hid_ex.trans e13) (Nat.le_refl _) (hall x (List.mem_of_getElem? hx))
        walk_at "rd"
        refine ⟨_, d, rfl, hd, hf, fun H14 e14 => ?_⟩
        walk_at "rd"
        refine ⟨_, d, rfl, Dp.mono e14 hd, hf, fun H15 e15 => ?_⟩
        walk_at "rd"
        refine ⟨by show 2 ≤ sizeLine; decide, fun t ht => ?_⟩
        have e16 := (e14.trans e15).trans (Evl.Ex.new (o := .tup [.bl (isItemD d), .bl (isAnswerD d)]) ht)
        have ht16 : upd H15 t (.tup [.bl (isItemD d), .bl (isAnswerD d)]) t = some (.tup [.bl (isItemD d), .bl (isAnswerD d)]) := upd_same
        generalize upd H15 t (HO.tup _) = H16 at e16 ht16 ⊢
        clear e14 e15 ht
        have hd16 := Dp.mono e16 hd
        -- due
        have due : ∀ (σ : L2.St) (Q2 : VK), σ[4]? = some (some x) → (∀ H'', Evl.Ex H16 H'' → Q2 (.bl (isItemD d)) H'') → tAndV (tNotV (tCB (rIsiT K) (tCons (tVar 4) (tCons (tTup (tCons (tC (V.ty "list")) (tCons (tC (V.ty "tuple")) tNil))) tNil)))) (tCall (spB1 K isItemD) [] L2.E0 (tCons (tVar 4) tNil)) σ H16 Q2 := by
          intro σ Q2 hσ q
          refine r_andV (r_notV (r_cb (r_cons (r_var hσ (r_cons (r_tup ?_))))))
          walk_at "rd"
          refine ⟨by show 2 ≤ sizeLine; decide, fun tp htp => ?_⟩
          have e17 := Evl.Ex.new (o := .tup [.ty "list", .ty "tuple"]) htp
          have htp17 : upd H16 tp (.tup [.ty "list", .ty "tuple"]) tp = some (.tup [.ty "list", .ty "tuple"]) := upd_same
          generalize upd H16 tp (HO.tup _) = H17 at e17 htp17 ⊢
          have hd17 := Dp.mono e17 hd16
          walk_at "rd"
          have hd18 := hd17
          cases hd17 with
          | lst s r => refine r_isiLT_lst htp17 s ?_; walk_at "rx"; exact q _ e17
          | tup s r => refine r_isiLT_tup htp17 s ?_; walk_at "rx"; exact q _ e17
          | non => refine r_isiLT_non htp17 ?_; walk_at "rx"; refine r_call (r_cons (r_var hσ (r_nil ?_))); exact ⟨_, _, rfl, hd18, hf, fun H2 e2 => q _ (e17.trans e2)⟩
          | bl _ => refine r_isiLT_bl htp17 ?_; walk_at "rx"; refine r_call (r_cons (r_var hσ (r_nil ?_))); exact ⟨_, _, rfl, hd18, hf, fun H2 e2 => q _ (e17.trans e2)⟩
          | int _ => refine r_isiLT_int htp17 ?_; walk_at "rx"; refine r_call (r_cons (r_var hσ (r_nil ?_))); exact ⟨_, _, rfl, hd18, hf, fun H2 e2 => q _ (e17.trans e2)⟩
          | str _ => refine r_isiLT_str htp17 ?_; walk_at "rx"; refine r_call (r_cons (r_var hσ (r_nil ?_))); exact ⟨_, _, rfl, hd18, hf, fun H2 e2 => q _ (e17.trans e2)⟩
        -- behind the two looks at told
        have rest : ∀ (D : Ends) (v1 v2 v3 v6 : Option V), (∀ (σ : L2.St) (H' : Hp), (∃ u1 u2 u3 u4 u5 u6 : Option V, σ = [some (.ref a), u1, u2, u3, u4, u5, u6]) → Evl.Ex H16 H' → D.nx σ H') →
            tSeq (tAsg (tAndV (tNotV (tCB (rIsiT K) (tCons (tVar 4) (tCons (tTup (tCons (tC (V.ty "list")) (tCons (tC (V.ty "tuple")) tNil))) tNil)))) (tCall (spB1 K isItemD) [] L2.E0 (tCons (tVar 4) tNil))) (gName 6))
              (tIfS (tTest (tOp (rNeA K) (tVar 5) (tTup (tCons (tVar 6) (tCons (tCall (spB1 K isAnswerD) [] L2.E0 (tCons (tVar 4) tNil)) tNil))))) (tRet (tC (V.bl false))) tNext) D [some (.ref a), v1, v2, v3, some x, some (.ref t), v6] H16 := by
          intro D v1 v2 v3 v6 hD
          refine r_seq (r_asg (due _ _ rfl fun H17 e17 => ?_))
          walk_at "rd"
          refine ⟨_, d, rfl, Dp.mono e17 hd16, hf, fun H18 e18 => ?_⟩
          walk_at "rd"
          refine ⟨by show 2 ≤ sizeLine; decide, fun t2 ht2 => ?_⟩
          have e19 := (e17.trans e18).trans (Evl.Ex.new (o := .tup [.bl (isItemD d), .bl (isAnswerD d)]) ht2)
          have hda : DpAll K (upd H18 t2 (.tup [.bl (isItemD d), .bl (isAnswerD d)])) [.bl (isItemD d), .bl (isAnswerD d)] [.bool (isItemD d), .bool (isAnswerD d)] := .cons (.bl _) (.cons (.bl _) .nil)
          refine r_neDF (Dp.tup (SqT.of (e19 _ _ ht16)) hda) (Dp.tup (SqT.of upd_same) hda) (by simp [SeqAt.shaped, PyData.canLay0, PyData.canLayAll0, PyData.depth, PyData.depthAll]) ?_
          walk_at "rd"
          exact hD _ _ ⟨_, _, _, _, _, _, rfl⟩ e19
        walk_at "rd"
        refine r_ixT (SqT.of ht16) (atI_nat (j := 0) rfl) ?_
        walk_at "rd"
        refine iteND (fun hb1 => ?_) (fun hb1 => ?_)
        · walk_at "rd"
          refine r_ixT (SqT.of ht16) (atI_nat (j := 0) rfl) ?_
          walk_at "rd"
          refine iteNY (by simpa using hb1) ?_
          walk_at "rd"
          refine r_ixT (SqT.of ht16) (atI_nat (j := 1) rfl) ?_
          walk_at "rd"
          refine iteND (fun hb2 => ?_) (fun hb2 => ?_)
          · walk_at "rd"
            refine r_ixT (SqT.of ht16) (atI_nat (j := 1) rfl) ?_
            walk_at "rd"
            refine iteNY (by simpa using hb2) ?_
            refine r_next (rest _ _ _ _ _ ?_)
            rintro σ H' ⟨u1, u2, u3, u4, u5, u6, rfl⟩ e
            exact ⟨_, _, _, _, _, _, rfl, (e13.trans e16).trans e⟩
          · refine iteF (r_next (rest _ _ _ _ _ ?_))
            rintro σ H' ⟨u1, u2, u3, u4, u5, u6, rfl⟩ e
            exact ⟨_, _, _, _, _, _, rfl, (e13.trans e16).trans e⟩
        · walk_at "rd"
          refine r_ixT (SqT.of ht16) (atI_nat (j := 1) rfl) ?_
          walk_at "rd"
          refine iteND (fun hb2 => ?_) (fun hb2 => ?_)
          · walk_at "rd"
            refine r_ixT (SqT.of ht16) (atI_nat (j := 1) rfl) ?_
            walk_at "rd"
            refine iteNY (by simpa using hb2) ?_
            refine r_next (rest _ _ _ _ _ ?_)
            rintro σ H' ⟨u1, u2, u3, u4, u5, u6, rfl⟩ e
            exact ⟨_, _, _, _, _, _, rfl, (e13.trans e16).trans e⟩
          · refine iteF (r_next (rest _ _ _ _ _ ?_))
            rintro σ H' ⟨u1, u2, u3, u4, u5, u6, rfl⟩ e
            exact ⟨_, _, _, _, _, _, rfl, (e13.trans e16).trans e⟩
      · rintro σ H' ⟨u1, u2, u3, u4, u5, u6, rfl, e⟩
        exact ⟨_, _, _, _, _, _, rfl, e0.trans (e12.trans e)⟩
    · rintro σ H' ⟨u1, u2, u3, u4, u5, u6, rfl, e0⟩
      walk_at "rd"
      exact k _
end
end WP

set_option Elab.async false
set_option linter.all false
set_option maxRecDepth 100000
set_option maxHeartbeats 4000000
namespace WP
open PySem PySem.Spec PyProof.Rows L2
local macro_rules | `(tactic| walk_at "rd") => `(tactic| repeat (first
  | with_reducible refine r_seq ?_ | with_reducible refine r_var rfl ?_ | with_reducible refine r_c ?_ | with_reducible refine r_op ?_ | with_reducible refine r_cons ?_ | with_reducible refine r_nil ?_
  | with_reducible refine r_cb ?_ | with_reducible refine r_call ?_ | with_reducible refine r_test ?_ | with_reducible refine r_B ?_ | with_reducible refine r_bl ?_ | with_reducible refine r_asg ?_ | with_reducible refine r_asgS ?_
  | with_reducible refine r_ret ?_ | with_reducible refine r_drop ?_ | with_reducible refine r_ifS ?_ | with_reducible refine r_if ?_ | with_reducible refine r_and ?_ | with_reducible refine r_or ?_ | with_reducible refine r_not ?_
  | with_reducible refine r_andV ?_ | with_reducible refine r_orV ?_ | with_reducible refine r_notV ?_ | with_reducible refine r_chain ?_ | with_reducible refine r_sl ?_ | with_reducible refine r_nopart ?_ | with_reducible refine r_part ?_
  | with_reducible refine r_intO ?_ | with_reducible refine r_two ?_ | with_reducible refine r_m1 ?_ | with_reducible refine r_bm ?_ | with_reducible refine r_next ?_ | with_reducible refine r_for ?_ | with_reducible refine r_rng1 ?_ | with_reducible refine r_iList ?_ | with_reducible refine r_iAny ?_ | with_reducible refine r_lc ?_ | with_reducible refine r_yes ?_ | with_reducible refine r_gN ?_ | with_reducible refine r_par ?_ | with_reducible refine r_un ?_ | with_reducible refine r_brk ?_ | with_reducible refine r_cont ?_
  | with_reducible refine r_I0 ?_ | with_reducible refine r_U ?_ | with_reducible refine r_addI ?_ | with_reducible refine r_abs ?_ | with_reducible refine r_intI ?_ | with_reducible refine r_max2 ?_ | with_reducible refine r_min2 ?_
  | with_reducible refine r_ltI ?_ | with_reducible refine r_leI ?_ | with_reducible refine r_gtI ?_ | with_reducible refine r_geI ?_ | with_reducible refine r_isN_non ?_ | with_reducible refine r_isN_int ?_ | with_reducible refine r_isN_str ?_ | with_reducible refine r_isN_bl ?_ | with_reducible refine r_isN_ref ?_ | with_reducible refine r_isN ?_ | with_reducible refine r_isB ?_ | with_reducible refine r_isnotN_non ?_ | with_reducible refine r_isnotN_int ?_ | with_reducible refine r_isnotN_str ?_ | with_reducible refine r_isnotN_bl ?_ | with_reducible refine r_isnotN_ref ?_ | with_reducible refine r_isnotN ?_ | with_reducible refine r_isnotB ?_
  | with_reducible refine r_inS ?_ | with_reducible refine r_eqS rfl ?_ | with_reducible refine r_neS rfl ?_ | with_reducible refine r_lst ?_ | with_reducible refine r_tup ?_ | with_reducible refine iteT ?_ | with_reducible refine iteF ?_))
local macro_rules | `(tactic| walk_at "isi") => `(tactic| (first
  | with_reducible refine r_isi_non_int ?_
  | with_reducible refine r_isi_non_str ?_
  | with_reducible refine r_isi_non_list ?_
  | with_reducible refine r_isi_non_tuple ?_
  | with_reducible refine r_isi_non_bool ?_
  | with_reducible refine r_isi_bl_int ?_
  | with_reducible refine r_isi_bl_str ?_
  | with_reducible refine r_isi_bl_list ?_
  | with_reducible refine r_isi_bl_tuple ?_
  | with_reducible refine r_isi_bl_bool ?_
  | with_reducible refine r_isi_int_int ?_
  | with_reducible refine r_isi_int_str ?_
  | with_reducible refine r_isi_int_list ?_
  | with_reducible refine r_isi_int_tuple ?_
  | with_reducible refine r_isi_int_bool ?_
  | with_reducible refine r_isi_str_int ?_
  | with_reducible refine r_isi_str_str ?_
  | with_reducible refine r_isi_str_list ?_
  | with_reducible refine r_isi_str_tuple ?_
  | with_reducible refine r_isi_str_bool ?_
  | with_reducible refine r_isi_lst_int (SqL.of (by assumption)) ?_
  | with_reducible refine r_isi_lst_str (SqL.of (by assumption)) ?_
  | with_reducible refine r_isi_lst_list (SqL.of (by assumption)) ?_
  | with_reducible refine r_isi_lst_tuple (SqL.of (by assumption)) ?_
  | with_reducible refine r_isi_lst_bool (SqL.of (by assumption)) ?_
  | with_reducible refine r_isi_tup_int (SqT.of (by assumption)) ?_
  | with_reducible refine r_isi_tup_str (SqT.of (by assumption)) ?_
  | with_reducible refine r_isi_tup_list (SqT.of (by assumption)) ?_
  | with_reducible refine r_isi_tup_tuple (SqT.of (by assumption)) ?_
  | with_reducible refine r_isi_tup_bool (SqT.of (by assumption)) ?_))
local macro_rules | `(tactic| walk_at "rs") => `(tactic| (first
  | ((with_reducible refine iteTc ?hc ?_); (case hc => rfl)) | ((with_reducible refine iteFc ?hc ?_); (case hc => rfl))
  | walk_at "isi"
  | refine r_ixL (SqL.of (by assumption)) rfl ?_ | refine r_ixL (SqL.of upd_same) rfl ?_
  | refine r_I (C := fun _ j => 0 < j) (by first | decide | assumption | omega) ?_
  | refine r_mulI (.inl ⟨by decide, by decide⟩) ?_ | refine r_mulI (.inr ⟨by decide, by decide⟩) ?_ | refine r_mulI (.inr ⟨by omega, by omega⟩) ?_ | refine r_mulI (.inl ⟨by omega, by omega⟩) ?_
  | refine r_I (wide_div (b := 64) (by decide) (by decide) (by decide) (by decide)) ?_
  | refine r_I (C := CPow) ⟨by decide, by decide, by decide⟩ ?_
  | refine r_setL (by assumption) rfl ?_ | refine r_setL upd_same rfl ?_))
local macro_rules | `(tactic| walk_at "rx") => `(tactic| (walk_at "rd"; (repeat (walk_at "rs"; walk_at "rd"))))

def steps : Nat := 900
def d_is_class_name : He.DefD := ⟨("is_class_name", none), "is_class_name", "is_class_name", defArgs s_is_class_name, defBody s_is_class_name, defScope s_is_class_name, [], []⟩
def d_is_number : He.DefD := ⟨("is_number", none), "is_number", "is_number", defArgs s_is_number, defBody s_is_number, defScope s_is_number, [], []⟩
def d_is_word : He.DefD := ⟨("is_word", none), "is_word", "is_word", defArgs s_is_word, defBody s_is_word, defScope s_is_word, [(.int 30)], []⟩
def d_is_item : He.DefD := ⟨("is_item", none), "is_item", "is_item", defArgs s_is_item, defBody s_is_item, defScope s_is_item, [], []⟩
def d_is_raised : He.DefD := ⟨("is_raised", none), "is_raised", "is_raised", defArgs s_is_raised, defBody s_is_raised, defScope s_is_raised, [], []⟩
def d_is_answer : He.DefD := ⟨("is_answer", none), "is_answer", "is_answer", defArgs s_is_answer, defBody s_is_answer, defScope s_is_answer, [], []⟩
def d_law_take : He.DefD := ⟨("_law_take", none), "_law_take", "_law_take", defArgs s_law_take, defBody s_law_take, defScope s_law_take, [], []⟩
def d_law_of : He.DefD := ⟨("_law_of", none), "_law_of", "_law_of", defArgs s_law_of, defBody s_law_of, defScope s_law_of, [], []⟩
def d_law_class : He.DefD := ⟨("_law_class", none), "_law_class", "_law_class", defArgs s_law_class, defBody s_law_class, defScope s_law_class, [], []⟩
def d_law_bag : He.DefD := ⟨("_law_bag", none), "_law_bag", "_law_bag", defArgs s_law_bag, defBody s_law_bag, defScope s_law_bag, [], []⟩
def d_law_word : He.DefD := ⟨("_law_word", none), "_law_word", "_law_word", defArgs s_law_word, defBody s_law_word, defScope s_law_word, [], []⟩
def d_law_any : He.DefD := ⟨("_law_any", none), "_law_any", "_law_any", defArgs s_law_any, defBody s_law_any, defScope s_law_any, [], []⟩
def d_law_number : He.DefD := ⟨("_law_number", none), "_law_number", "_law_number", defArgs s_law_number, defBody s_law_number, defScope s_law_number, [], []⟩
def d_law_is_integer : He.DefD := ⟨("_law_is_integer", none), "_law_is_integer", "_law_is_integer", defArgs s_law_is_integer, defBody s_law_is_integer, defScope s_law_is_integer, [], []⟩
def d_law_is_word : He.DefD := ⟨("_law_is_word", none), "_law_is_word", "_law_is_word", defArgs s_law_is_word, defBody s_law_is_word, defScope s_law_is_word, [], []⟩
def d_law_is_item : He.DefD := ⟨("_law_is_item", none), "_law_is_item", "_law_is_item", defArgs s_law_is_item, defBody s_law_is_item, defScope s_law_is_item, [], []⟩
def d_law_is_class : He.DefD := ⟨("_law_is_class", none), "_law_is_class", "_law_is_class", defArgs s_law_is_class, defBody s_law_is_class, defScope s_law_is_class, [], []⟩
def d_law_is_answer : He.DefD := ⟨("_law_is_answer", none), "_law_is_answer", "_law_is_answer", defArgs s_law_is_answer, defBody s_law_is_answer, defScope s_law_is_answer, [], []⟩
def d_law_near : He.DefD := ⟨("_law_near", none), "_law_near", "_law_near", defArgs s_law_near, defBody s_law_near, defScope s_law_near, [], []⟩
def d_law : He.DefD := ⟨("law", none), "law", "law", defArgs s_law, defBody s_law, defScope s_law, [], []⟩
def fn : List He.DefD := [d_is_class_name, d_is_number, d_is_word, d_is_item, d_is_raised, d_is_answer, d_law_take, d_law_of, d_law_class, d_law_bag, d_law_word, d_law_any, d_law_number, d_law_is_integer, d_law_is_word, d_law_is_item, d_law_is_class, d_law_is_answer, d_law_near, d_law]
def fa0 : List He.Fa := [.glo "is_class_name", .glo "is_number", .glo "is_word", .glo "is_item", .glo "is_raised", .glo "is_answer", .glo "_law_take", .glo "_law_of", .glo "_law_class", .glo "_law_bag", .glo "_law_word", .glo "_law_any", .glo "_law_number", .glo "_law_is_integer", .glo "_law_is_word", .glo "_law_is_item", .glo "_law_is_class", .glo "_law_is_answer", .glo "_law_near", .glo "law", .str "SMALL" "abcdefghijklmnopqrstuvwxyz", .str "CAPITALS" "ABCDEFGHIJKLMNOPQRSTUVWXYZ"]
def fa : List He.Fa := blFa ++ fa0
def loose : List PySem.Str := ["SMALL", "CAPITALS", "is_class_name", "is_number", "is_word", "is_item", "is_raised", "is_answer", "_law_take", "_law_of", "_law_class", "_law_bag", "_law_word", "_law_any", "_law_number", "_law_is_integer", "_law_is_word", "_law_is_item", "_law_is_class", "_law_is_answer", "_law_near"]
abbrev R : PySem.W.OpenRow := PySem.W.OpenLaw.row PySem.Challenge.rw_whatpasses_k05_items_and_answers
abbrev hk : PySem.W.Hook := He.hookD 5 fa fn
def ob (s : PySem.W.SharedT) : He.AlD := He.obsDG 5 fa fn (HandSHeadRun.getT s)
theorem ob_eq (s : PySem.W.SharedT) : ob s = hk.obs s.abs := He.obsDG_eq (HandSHeadRun.getT_eq s)
theorem run (w : World) : HandSHeadRun.RunEq R (PySem.W.view R.prog [24]) hk ob steps loose w := by
  intro os
  kernel_rfl
theorem facts {P : Program} {w : World} {K : PySem.W.Frag} {h : Heap} {mg : Str → Option Value} {f : Addr} (X : K.In h) (G : h.Ns mainGlobals mg) (hfa : mg ("law" : Str) = some (.ref f)) (c : He.SaysD fa fn K) :
    ∃ fd : FuncData, (∀ (s : Shared) (v : Value), BindsTo s fd ⟨[v], []⟩ [("_law_script", v)]) ∧ ∀ base : Heap, K.In base → base.Ns mainGlobals mg → FnOk P w K mg base L2.CX0 8 f fd ["_law_script"] (spLaw K) := by
  have B : Bl mg := bl_of X G c
  obtain ⟨fd, F⟩ := c.def_ 19 (d := d_law) rfl
  have e := hfa.symm.trans (He.glo_ok X G (c.fact 36 (f := .glo "law") rfl))
  cases e
  have b := FunD.bindsA (ps := ["_law_script"]) F fun _ _ _ _ _ _ us hl => match us, hl with | [_], _ => rfl
  refine ⟨fd, fun s v => b s [v] rfl, fun base _ _ => ?_⟩
  have take := c_take (P := P) (w := w) (base := base) (at_of X G c 6 23) B
  have of_ := c_of (P := P) (w := w) (base := base) (at_of X G c 7 24) B take
  have word := c_word (P := P) (w := w) (base := base) (at_of X G c 10 27) B take of_
  have cls := c_class (P := P) (w := w) (base := base) (at_of X G c 8 25) B take of_
  have isw := c_is_word_1 (P := P) (w := w) (base := base) (atD_of X G c 2 19) B (gs_of X G c 37)
  have isi := c_is_item (P := P) (w := w) (base := base) (at_of X G c 3 20) B (c_is_number (at_of X G c 1 18) B) isw
  have isa := c_is_answer (P := P) (w := w) (base := base) (at_of X G c 5 22) B isi (c_is_raised (at_of X G c 4 21) B (c_is_class_name (at_of X G c 0 17) B (gs_of X G c 37) (gs_of X G c 38)))
  have li := c_law_is_item_ (P := P) (w := w) (base := base) (at_of X G c 15 32) B (c_law_is_integer_ (at_of X G c 13 30) B) (c_law_is_word_ (at_of X G c 14 31) B)
  exact c_law F B take of_ word (c_any (at_of X G c 11 28) B take of_ word cls 3) (c_near (at_of X G c 18 35) B take of_ cls) (c_number (at_of X G c 12 29) B take of_) (c_bag (at_of X G c 9 26) B) isi isa li (c_law_is_answer_ (at_of X G c 17 34) B li (c_law_is_class_ (at_of X G c 16 33) B))
end WP
open PySem PySem.W PySem.Calls PyProof.Rows
set_option maxRecDepth 100000 in
set_option maxHeartbeats 0 in
theorem PySem.Challenge.cw_whatpasses_k05_items_and_answers_holds : PySem.Challenge.rw_whatpasses_k05_items_and_answers.Holds := by
  w_on; o_law
  refine HandSHeadRun.head_any (r := OpenLaw.row PySem.Challenge.rw_whatpasses_k05_items_and_answers) (q := view (OpenLaw.row PySem.Challenge.rw_whatpasses_k05_items_and_answers).prog [24]) (H := WP.hk) (ob := WP.ob) (M := WP.steps) (loose := WP.loose) (d := HandSHeadRun.topDef (OpenLaw.row PySem.Challenge.rw_whatpasses_k05_items_and_answers).prog 24) (kwd := []) WP.ob_eq
    (by kernel_rfl) (fun s => by kernel_rfl) WP.run (by kernel_rfl) (by kernel_rfl) (by kernel_rfl) (by rfl) (by first | assumption | decide +kernel) (by decide +kernel) ⟨rfl, rfl, rfl, rfl, rfl, by decide +kernel⟩ ?hw ?hc
  case hw => w_witness2
  case hc =>
    refine L2.walk_ofE (l := PySem.Challenge.rw_whatpasses_k05_items_and_answers) (n := 63) (k := 8) (x := "_law_script") (CX := L2.CX0) rfl (by decide) (by kernel_rfl) ⟨rfl, by decide, by decide⟩ ?F (fun _ _ _ _ z => z)
    intro w mg fa h Y G hmg0
    obtain ⟨K, KX, c⟩ := Y
    have hmg : mg ("law" : PySem.Str) = some (.ref fa) := by
      have e : (HandSHeadRun.topDef (OpenLaw.row PySem.Challenge.rw_whatpasses_k05_items_and_answers).prog 24).name = ("law" : PySem.Str) := by kernel_rfl
      rw [← e]
      exact hmg0
    obtain ⟨fd, hb, hF⟩ := WP.facts (P := (PySem.Challenge.rw_whatpasses_k05_items_and_answers).prog) (w := w) KX G hmg c
    exact ⟨K, fd, WP.spLaw K, KX, hb, fun H a ns hl _ hS => ⟨a, ns, rfl, hS, hl, fun _ => rfl⟩, hF⟩
#print axioms PySem.Challenge.cw_whatpasses_k05_items_and_answers_holds

