import PyProof.Rows.All
import Wide.All
import OpenK.AllK
import Wide.FinOn
import HandS.ForMost
import HandS.Wide
import HandS.FStr
import HandS.IsInst
import HandS.Defaults
import HandS.Codes
import HandS.TupAny
import HandS.Exc
import HandS.WordsExc
import HandS.Steps
import HandS.Walk
import HandS.Evl
import HandS.Head0
import HandS.Head1
import HandS.Head2
import HandS.HeadEnd
import HandS.HeadHook1
import HandS.HeadHook2
import KE.KIsAll
import HandS.ExcInit
import HandS.ExcIs
import HandS.ExcField
import HandS.ExcOwn
import HandS.Small
import HandS.ClsMeth
import HandS.CallSlots
import HandS.ExcValue
import HandS.SortInts
import HandS.Conv
import PySem.Challenge.RW_dearsigns_k58_orders_of_things
set_option Elab.async false
set_option linter.all false
set_option maxRecDepth 100000
set_option maxHeartbeats 4000000
/-! Zk: own reading steps over the hand layer. -/
namespace Z
open PySem PySem.Spec PyProof.Rows L2

/-! ### calls of defs, packed -/
structure Cf (P : Program) (w : World) (K : PySem.W.Frag) (mg : Str → Option Value) (base : Heap) (CX : CXT) (k : Nat) (x : Str) (sp : Sp) (dvs : List V) : Prop where
  ex : ∃ (f : Addr) (fd : FuncData) (ps : List Str) (ds : List Value), FnOk P w K mg base CX k f fd ps sp ∧ mg x = some (.ref f) ∧ PySem.W.keepIn K (.ref f) = true ∧ Binds K fd ps ds ∧ Vals dvs ds
abbrev C0 (P : Program) (w : World) (K : PySem.W.Frag) (mg : Str → Option Value) (base : Heap) (k : Nat) (x : Str) (sp : Sp) : Prop := Cf P w K mg base CX0 k x sp []
abbrev CE (P : Program) (w : World) (K : PySem.W.Frag) (mg : Str → Option Value) (base : Heap) (k : Nat) (x : Str) (sp : Sp) : Prop := Cf P w K mg base (L2.CX P w) k x sp []
theorem Cf.mono {P : Program} {w : World} {K : PySem.W.Frag} {mg : Str → Option Value} {base : Heap} {CX : CXT} {j k : Nat} {x : Str} {sp : Sp} {dvs : List V} (c : Cf P w K mg base CX j x sp dvs) (h : j ≤ k) : Cf P w K mg base CX k x sp dvs := by
  obtain ⟨f, fd, ps, ds, F, r⟩ := c.ex
  exact ⟨f, fd, ps, ds, F.mono h, r⟩
section
variable {X : Cx} {k j : Nat} {x : Str} {sp : Sp} {dvs : List V} {p pos : Pos} {e : Expr} {es : List Expr} {t : TA}
theorem pe_c0 (c : Cf X.prog X.w X.K X.mg X.base CX0 k x sp dvs) (hr : Room j X.A) (hk : k ≤ j) (hg : Gl X x) (ha : PA X (e :: es) t)
    (hdb : (x == ("__debug__" : Str)) = false := by decide) (he : starEach (e :: es) X.env = (false, eval e X.env) :: starEach es X.env := by rfl) (hpl : (backTo pos (starEach es X.env)).any (·.1) = false := by rfl) :
    PE X (.Call (.Name x p) (e :: es) [] pos) (tCall sp dvs E0 t) := by
  obtain ⟨f, fd, ps, ds, F, hm, kp, b, d⟩ := c.ex
  exact pe_call F (hr.mono hk) hg hm kp b d pass0 ha hdb he hpl
end
/-- a def as it stands behind the top -/
structure At (K : PySem.W.Frag) (mg : Str → Option Value) (g x : Str) (st : Stmt) (dvs : List V) : Prop where
  ex : ∃ (f : Addr) (fd : FuncData), FunD K x x (defArgs st) (defBody st) (defScope st) dvs [] f fd ∧ mg g = some (.ref f)
section
variable {P : Program} {w : World} {K : PySem.W.Frag} {mg : Str → Option Value} {base : Heap} {g x : Str} {st : Stmt} {dvs : List V}
/-- binding where nothing has a default; h is «fun _ _ _ _ _ _ us hl => match us, hl with | [_, _], _ => rfl» -/
theorem bd0 {ps : List Str} (h : ∀ (kV doc pm : Value) (an : Option Addr) (cdv ct : Value) (us : List Value), us.length = ps.length → bindArgs (PySem.W.fnOf x x (defArgs st) (defBody st) (defScope st) .none kV doc pm an cdv ct) ⟨us, []⟩ = pure (ps.zip us)) :
    ∀ (f : Addr) (fd : FuncData), FunD K x x (defArgs st) (defBody st) (defScope st) [] [] f fd → Binds K fd ps [] := fun f fd F => by
  obtain ⟨oc, od, dV, kV, doc, pm, an, cdv, ct, osl, rfl, _, _, hD, _⟩ := F.ex
  rcases hD with ⟨_, rfl⟩ | ⟨n, _⟩
  · exact .all (h kV doc pm an cdv ct)
  · exact absurd rfl n
/-- all given, some have defaults; h is «fun _ _ _ _ _ _ _ us its hu hi => match us, its, hu, hi with | [_, _], [_], _, _ => ⟨_, rfl, rfl⟩» -/
theorem bd1 {ps : List Str} (hd : dvs ≠ []) (h : ∀ (T : Addr) (kV doc pm : Value) (an : Option Addr) (cdv ct : Value) (us its : List Value), us.length = ps.length → its.length = dvs.length →
      ∃ k, bindArgs (PySem.W.fnOf x x (defArgs st) (defBody st) (defScope st) (.ref T) kV doc pm an cdv ct) ⟨us, []⟩ = seqItems? (.ref T) >>= k ∧ k (some its.toArray) = pure (ps.zip (us ++ its.drop dvs.length))) :
    ∀ (f : Addr) (fd : FuncData), FunD K x x (defArgs st) (defBody st) (defScope st) dvs [] f fd → Binds K fd ps [] := fun f fd F => by
  obtain ⟨ds, v, b⟩ := F.binds1 ps.length dvs.length hd (by omega) h
  rw [List.drop_length] at v
  cases v
  exact b
/-- THE RULE: h is «fun _ _ _ _ _ _ us hl => match us, hl with | [_, _], _ => rfl» -/
theorem At.c0 {N ps : List Str} {k : Nat} {sp : Sp} (F : At K mg g x st dvs) (S : FnScope N ps (defScope st)) (len : ∀ vs H Q E, sp vs H Q E → vs.length = ps.length)
    (b : ∀ (f : Addr) (fd : FuncData), FunD K x x (defArgs st) (defBody st) (defScope st) dvs [] f fd → Binds K fd ps [])
    (hbody : ∀ (f : Addr) (cdv : Value) (A : Around) (outer : List Env) (s : Shared) (H : Hp) (vs : List V) (Q : VK) (E : XK), Room k (A.deeper (envOfC x (defScope st) s.heap.objs.size f cdv)) → sp vs H Q E →
      ∃ t, PSs (cxOf CX0 P w K mg base N x (defScope st) f cdv A outer s H E).nox (defBody st) t ∧ t { nx := fun _ H' => Q .non H', rt := Q } (start N vs) H) : C0 P w K mg base (k + 1) g sp := by
  obtain ⟨f, fd, F, hm⟩ := F.ex
  have G : FnOk P w K mg base CX0 (k + 1) f fd ps sp := F.ok S len fun cdv A outer s H vs Q E hr h => by
    obtain ⟨t, h1, h2⟩ := hbody f cdv A outer s H vs Q E hr h
    exact ⟨t, h1.nox, h2⟩
  exact ⟨f, fd, ps, [], G, hm, F.kp, b f fd F, .nil⟩
theorem At.ce {N ps : List Str} {k : Nat} {sp : Sp} (F : At K mg g x st dvs) (S : FnScope N ps (defScope st)) (len : ∀ vs H Q E, sp vs H Q E → vs.length = ps.length)
    (b : ∀ (f : Addr) (fd : FuncData), FunD K x x (defArgs st) (defBody st) (defScope st) dvs [] f fd → Binds K fd ps [])
    (hbody : ∀ (f : Addr) (cdv : Value) (A : Around) (outer : List Env) (s : Shared) (H : Hp) (vs : List V) (Q : VK) (E : XK), Room k (A.deeper (envOfC x (defScope st) s.heap.objs.size f cdv)) → sp vs H Q E →
      ∃ t, PSs (cxOf (L2.CX P w) P w K mg base N x (defScope st) f cdv A outer s H E) (defBody st) t ∧ t { nx := fun _ H' => Q .non H', rt := Q } (start N vs) H) : CE P w K mg base (k + 1) g sp := by
  obtain ⟨f, fd, F, hm⟩ := F.ex
  have G : FnOk P w K mg base (L2.CX P w) (k + 1) f fd ps sp := F.ok S len fun cdv A outer s H vs Q E hr h => hbody f cdv A outer s H vs Q E hr h
  exact ⟨f, fd, ps, [], G, hm, F.kp, b f fd F, .nil⟩
end

section
variable {P : Program} {w : World} {K : PySem.W.Frag} {mg : Str → Option Value} {g x : Str} {st : Stmt} {dvs : List V}
/-- the law itself -/
theorem At.law {N : List Str} {p : Str} {k : Nat} {sp : Sp} {fa : Addr} (F : At K mg g x st []) (hmg : mg g = some (.ref fa)) (S : FnScope N [p] (defScope st)) (len : ∀ vs H Q E, sp vs H Q E → vs.length = 1)
    (b : ∀ (kV doc pm : Value) (an : Option Addr) (cdv ct : Value) (u : Value), bindArgs (PySem.W.fnOf x x (defArgs st) (defBody st) (defScope st) .none kV doc pm an cdv ct) ⟨[u], []⟩ = pure [(p, u)])
    (hbody : ∀ (base : Heap) (f : Addr) (cdv : Value) (A : Around) (outer : List Env) (s : Shared) (H : Hp) (vs : List V) (Q : VK) (E : XK), Room k (A.deeper (envOfC x (defScope st) s.heap.objs.size f cdv)) → sp vs H Q E →
      ∃ t, PSs (cxOf CX0 P w K mg base N x (defScope st) f cdv A outer s H E).nox (defBody st) t ∧ t { nx := fun _ H' => Q .non H', rt := Q } (start N vs) H) :
    ∃ fd : FuncData, (∀ (s : Shared) (u : Value), BindsTo s fd ⟨[u], []⟩ [(p, u)]) ∧ ∀ base : Heap, FnOk P w K mg base CX0 (k + 1) fa fd [p] sp := by
  obtain ⟨f, fd, F, hm⟩ := F.ex
  have e : fa = f := by
    have h := hmg.symm.trans hm
    injection h with h
    injection h
  subst e
  refine ⟨fd, ?_, fun base => F.ok S len fun cdv A outer s H vs Q E hr h => ?_⟩
  · obtain ⟨oc, od, dV, kV, doc, pm, an, cdv, ct, osl, rfl, _, _, hD, _⟩ := F.ex
    rcases hD with ⟨_, rfl⟩ | ⟨n, _⟩
    · exact fun s u => .of_eq (b kV doc pm an cdv ct u)
    · exact absurd rfl n
  · obtain ⟨t, h1, h2⟩ := hbody base fa cdv A outer s H vs Q E hr h
    exact ⟨t, h1.nox, h2⟩
end

/-! ### operations of several kinds -/
section
variable {X : Cx}
def rAddS : R2 := fun x y H Q => ∃ i j, x = .str i ∧ y = .str j ∧ i.length + j.length ≤ sizeLine ∧ Q (.str (i ++ j)) H
def rAddI : R2 := rI0 fun i j => .int (i + j)
def rAddP (K : PySem.W.Frag) : R2 := fun x y H Q => rAddI x y H Q ∨ rAddS x y H Q ∨ rCat x y H Q ∨ rCatA K x y H Q
theorem op_addP : OpR X (binaryOp .Add) (rAddP X.K) := OpR.or op_add (OpR.or op_add_str (OpR.or op_cat op_catA))
def CMulP (i j : Int) : Prop := CMul i j ∨ CMulW i j
theorem op_mulI : OpR X (binaryOp .Mult) (rI CMulP fun i j => .int (i * j)) := opI fun _ _ _ _ _ _ _ hc q => mul_int q (hc.elim CMul.ok CMulW.ok)
def rMulI : R2 := rI CMulP fun i j => .int (i * j)
def rMulP : R2 := fun x y H Q => rMulI x y H Q ∨ rRep x y H Q
theorem op_mulP : OpR X (binaryOp .Mult) rMulP := OpR.or op_mulI op_rep
def CDivP (i j : Int) : Prop := CDiv i j ∨ CDivW i j
theorem op_fdivP : OpR X (binaryOp .FloorDiv) (rI CDivP fun i j => .int (i / j)) := opI fun i j t u s Q E hc q => by
  have h1 : (0 : Int) < j := by rcases hc with h | h <;> exact h.1
  refine floordiv_int (by omega) (by rw [Int.fdiv_eq_ediv_of_nonneg i (by omega)]; exact q) (.inl ?_)
  rcases hc with h | h
  · have h2 := h.2
    exact PyProof.noPylong_small (by omega)
  · exact PyProof.noPylong_of_log2 h.2
def rDiv : R2 := rI CDivP fun i j => .int (i / j)
def rMod : R2 := rI (fun _ j => 0 < j) fun i j => .int (i % j)
def rSub : R2 := rI0 fun i j => .int (i - j)
def rPow : R2 := rI CPow fun i j => .int (i ^ j.toNat)
theorem op_div : OpR X (binaryOp .FloorDiv) rDiv := op_fdivP
theorem op_modP : OpR X (binaryOp .Mod) rMod := op_mod
theorem op_subI : OpR X (binaryOp .Sub) rSub := op_sub
theorem op_powI : OpR X (binaryOp .Pow) rPow := op_pow
def rEqP (K : PySem.W.Frag) : R2 := fun x y H Q => rEq x y H Q ∨ rEqD K x y H Q
def rNeP (K : PySem.W.Frag) : R2 := fun x y H Q => rNe x y H Q ∨ rNeD K x y H Q
theorem op_eqP (hu : X.A.units + 64 < cLine) : OpR X (compareOp .Eq) (rEqP X.K) := OpR.or op_eq (op_eqD hu)
theorem op_neP (hu : X.A.units + 64 < cLine) : OpR X (compareOp .NotEq) (rNeP X.K) := OpR.or op_ne (op_neD hu)
def rLtI : R2 := rI0 fun i j => .bl (decide (i < j))
def rLeI : R2 := rI0 fun i j => .bl (decide (i ≤ j))
def rGtI : R2 := rI0 fun i j => .bl (decide (j < i))
def rGeI : R2 := rI0 fun i j => .bl (decide (j ≤ i))
theorem op_ltI : OpR X (compareOp .Lt) rLtI := op_lt
theorem op_leI : OpR X (compareOp .LtE) rLeI := op_le
theorem op_gtI : OpR X (compareOp .Gt) rGtI := op_gt
theorem op_geI : OpR X (compareOp .GtE) rGeI := op_ge
def rIs : R2 := fun x y H Q => y = .non ∧ Q (.bl (decide (x = .non))) H
def rIsNot : R2 := fun x y H Q => y = .non ∧ Q (.bl (!decide (x = .non))) H
theorem op_isP : OpR X (compareOp .Is) rIs := op_isN
theorem op_isNotP : OpR X (compareOp .IsNot) rIsNot := op_notN
/-- one sign in a text; a flat thing in a list or tuple of flat things -/
def rInT (neg : Bool) : R2 := fun x y H Q => ∃ (c : Nat) (z : Str), x = .str ⟨#[c]⟩ ∧ y = .str z ∧ Q (.bl (if neg then !decide (c ∈ z.cps.toList) else decide (c ∈ z.cps.toList))) H
def rInP (K : PySem.W.Frag) (neg : Bool) : R2 := fun x y H Q => rInT neg x y H Q ∨ rIn K neg x y H Q
theorem op_inP : OpR X (compareOp .In) (rInP X.K false) := OpR.or op_in_sign op_in_seq
theorem op_notInP : OpR X (compareOp .NotIn) (rInP X.K true) := OpR.or op_notIn_sign op_notIn_seq
def rSlP (K : PySem.W.Frag) : V → Option Int → Option Int → Hp → VK → Prop := fun x lo hi H Q => rSlL K x lo hi H Q ∨ rSlS x lo hi H Q ∨ rSlA K x lo hi H Q
theorem sl_any : SlR X (rSlP X.K) := sl_list.or (sl_str.or sl_tupA)
/-- calls of builtins -/
def cLen (K : PySem.W.Frag) : List V → Hp → VK → Prop := fun xs H Q => ∃ x n, xs = [x] ∧ LenV K x H n ∧ Q (.int n) H
theorem call_lenP : CallR X (.builtin "len") (cLen X.K) := call_len
def cAbs : List V → Hp → VK → Prop := fun xs H Q => ∃ i, xs = [.int i] ∧ Q (.int (if i < 0 then -i else i)) H
theorem call_absP : CallR X (.builtin "abs") cAbs := call_abs
def cMax : List V → Hp → VK → Prop := fun xs H Q => ∃ i j, xs = [.int i, .int j] ∧ Q (.int (if j > i then j else i)) H
theorem call_maxP (hc : X.calm = true) : CallR X (.builtin "max") cMax := call_max2 hc
def cMin : List V → Hp → VK → Prop := fun xs H Q => ∃ i j, xs = [.int i, .int j] ∧ Q (.int (if j < i then j else i)) H
theorem call_minP (hc : X.calm = true) : CallR X (.builtin "min") cMin := call_min2 hc
def cStr : List V → Hp → VK → Prop := fun xs H Q => ∃ i, xs = [.int i] ∧ i.natAbs.log2 < 1920 ∧ Q (.str (toString i)) H
theorem call_strP : CallR X (.type "str") cStr := call_str_int
def cInt : List V → Hp → VK → Prop := fun xs H Q => ∃ a n, xs = [.str a] ∧ PySem.intText? a = some n ∧ a.length ≤ 640 ∧ Q (.int n) H
theorem call_intP : CallR X (.type "int") cInt := call_int_str
def cList (K : PySem.W.Frag) : List V → Hp → VK → Prop := fun xs H Q => ∃ p ys, xs = [.ref p] ∧ (SqL K H p ys ∨ SqT K H p ys) ∧ ∀ l, H l = none → Q (.ref l) (upd H l (.lst ys))
theorem call_listP : CallR X (.type "list") (cList X.K) := call_list_of
def mSplit : V → List V → Hp → VK → Prop := fun x xs H Q => ∃ a b, x = .str a ∧ xs = [.str b] ∧ (b.length == 0) = false ∧ a.length + 2 ≤ sizeLine ∧ rNewStrs (Txt.split a b) H Q
theorem mt_splitP : MtR X "str.split" mSplit := mt_split
def mJoin (K : PySem.W.Frag) : V → List V → Hp → VK → Prop := fun x xs H Q => ∃ a p, ∃ ys : List Str, x = .str a ∧ xs = [.ref p] ∧ (SqL K H p (ys.map V.str) ∨ SqT K H p (ys.map V.str)) ∧ (ys.map (·.length)).sum + ys.length * a.length ≤ 16777216 ∧ Q (.str (Txt.join a ys)) H
end

/-! the written part's name kept: K in place of X.K (a block's context is another one) -/
section
variable {X : Cx}
theorem k_addP (K : PySem.W.Frag) (hK : X.K = K := by rfl) : OpR X (binaryOp .Add) (rAddP K) := hK ▸ op_addP
theorem k_eqP (K : PySem.W.Frag) (hu : X.A.units + 64 < cLine) (hK : X.K = K := by rfl) : OpR X (compareOp .Eq) (rEqP K) := hK ▸ op_eqP hu
theorem k_neP (K : PySem.W.Frag) (hu : X.A.units + 64 < cLine) (hK : X.K = K := by rfl) : OpR X (compareOp .NotEq) (rNeP K) := hK ▸ op_neP hu
theorem k_inP (K : PySem.W.Frag) (hK : X.K = K := by rfl) : OpR X (compareOp .In) (rInP K false) := hK ▸ op_inP
theorem k_notInP (K : PySem.W.Frag) (hK : X.K = K := by rfl) : OpR X (compareOp .NotIn) (rInP K true) := hK ▸ op_notInP
theorem k_ix (K : PySem.W.Frag) (hK : X.K = K := by rfl) : IxR X (rIx K) := hK ▸ ix_seq
theorem k_sl (K : PySem.W.Frag) (hK : X.K = K := by rfl) : SlR X (rSlP K) := hK ▸ sl_any
theorem k_len (K : PySem.W.Frag) (hK : X.K = K := by rfl) : CallR X (.builtin "len") (cLen K) := hK ▸ call_lenP
theorem k_isi (K : PySem.W.Frag) (hK : X.K = K := by rfl) : CallR X (.builtin "isinstance") (rIsi K) := hK ▸ call_isi
theorem k_isiT (K : PySem.W.Frag) (hK : X.K = K := by rfl) : CallR X (.builtin "isinstance") (rIsiT K) := hK ▸ call_isiT
theorem k_all (K : PySem.W.Frag) (hc : X.calm = true) (hK : X.K = K := by rfl) : CallR X (.builtin "all") (rAll K) := hK ▸ cr_all hc
theorem k_any (K : PySem.W.Frag) (hc : X.calm = true) (hK : X.K = K := by rfl) : CallR X (.builtin "any") (rAny K) := hK ▸ cr_any hc
theorem k_list (K : PySem.W.Frag) (hK : X.K = K := by rfl) : CallR X (.type "list") (cList K) := hK ▸ call_listP
theorem k_join (K : PySem.W.Frag) (hK : X.K = K := by rfl) : MtR X "str.join" (mJoin K) := hK ▸ mt_join
variable {o e : Expr} {es : List Expr} {to te : TE} {t : TA} {name : Str} {id : String} {T : String} {apos cpos pos : Pos}
theorem k_bm0 (K : PySem.W.Frag) {r : V → List V → Hp → VK → Prop} (pa : PlainAttrs T) (slot : Slot T name id) (hty : typeOf (.builtin id) = pure (.type "method_descriptor")) (hm : MtR X id r) (ho : PE X o to)
    (hbase : attributeBase o name X.env (eval o X.env) = eval o X.env := by rfl) (hline : (apos.endLine == cpos.line) = true := by rfl) (hK : X.K = K := by rfl) : PE X (.Call (.Attribute o name apos) [] [] cpos) (tBM0 K T r to) := hK ▸ pe_bm0 pa slot hty hm ho hbase hline
theorem k_bm (K : PySem.W.Frag) {r : V → List V → Hp → VK → Prop} (pa : PlainAttrs T) (slot : Slot T name id) (hty : typeOf (.builtin id) = pure (.type "method_descriptor")) (hm : MtR X id r) (ho : PE X o to) (ha : PA X (e :: es) t)
    (hbase : attributeBase o name X.env (eval o X.env) = eval o X.env := by rfl)
    (hfew : ((backTo cpos (starEach (e :: es) X.env)).all (fun x => !x.1) && (backToKw cpos (keywordEach [] X.env)).all (fun x => x.1.isSome)
      && decide ((e :: es).length + ([] : List Keyword).length + (if ([] : List Keyword).isEmpty then 0 else 1) < 30)) = true := by rfl)
    (hline : (apos.endLine == cpos.line) = true := by rfl) (hs : starEach (e :: es) X.env = (false, eval e X.env) :: starEach es X.env := by rfl) (hplain : (backTo cpos (starEach es X.env)).any (·.1) = false := by rfl) (hK : X.K = K := by rfl) :
    PE X (.Call (.Attribute o name apos) (e :: es) [] cpos) (tBM K T r to t) := hK ▸ pe_bm pa slot hty hm ho ha hbase hfew hline hs hplain
theorem k_tup (K : PySem.W.Frag) {es : List Expr} {k : Nat} {t : TGs} {n : Nat} (hc : X.calm = true) (h : PGs X es t)
    (hn : (assignEach es X.env).length = n := by rfl) (hst : (assignEach es X.env).findIdx? (·.1) = none := by rfl) (hK : X.K = K := by rfl) : PG X (.Tuple es k pos) (gTup K n t) := hK ▸ pg_tup hc h hn hst
theorem k_iL (K : PySem.W.Frag) {tg l : Expr} {tl : TE} (hl : PE X l tl) (hK : X.K = K := by rfl) : PI X tg l (iList K tl) := hK ▸ pi_list hl
theorem k_iT (K : PySem.W.Frag) {tg l : Expr} {tl : TE} (hl : PE X l tl) (hK : X.K = K := by rfl) : PI X tg l (iTup K tl) := hK ▸ pi_tup hl
theorem k_iE (K : PySem.W.Frag) {ta : TA} {p pos tpos : Pos} {elts : List Expr} {kk : Nat} (hg : Gl X "enumerate") (hm : X.mg "enumerate" = none) (ha : PA X [e] ta) (hs : starEach [e] X.env = [(false, eval e X.env)] := by rfl) (hK : X.K = K := by rfl) :
    PI X (.Tuple elts kk tpos) (.Call (.Name "enumerate" p) [e] [] pos) (iEnum K ta) := hK ▸ pi_enum hg hm ha hs
theorem k_iZ (K : PySem.W.Frag) {e2 : Expr} {ta : TA} {p pos tpos : Pos} {elts : List Expr} {kk : Nat} (hg : Gl X "zip") (hm : X.mg "zip" = none) (ha : PA X [e, e2] ta)
    (hs : starEach [e, e2] X.env = (false, eval e X.env) :: starEach [e2] X.env := by rfl) (hpl : (backTo pos (starEach [e2] X.env)).any (·.1) = false := by rfl) (hK : X.K = K := by rfl) :
    PI X (.Tuple elts kk tpos) (.Call (.Name "zip" p) [e, e2] [] pos) (iZip K ta) := hK ▸ pi_zip hg hm ha hs hpl
end

/-! ### heaps -/
theorem Same.new {H : Hp} {p : Addr} {o : HO} (h : H p = none) : Same H (upd H p o) := fun b x e => by
  rw [upd_ne (ne_of_none e h)]
  exact e
/-- all but l stays -/
def But (l : Addr) (H H' : Hp) : Prop := ∀ b o, b ≠ l → H b = some o → H' b = some o
theorem But.upd {H : Hp} {l : Addr} {o : HO} : But l H (upd H l o) := fun b x n e => by
  rw [upd_ne n]
  exact e
theorem up {H H' : Hp} {a : Addr} {o : HO} (e : Same H H') (h : H a = some o) : H' a = some o := e a o h
theorem upB {H H' : Hp} {l a : Addr} {o : HO} (e : But l H H') (n : a ≠ l) (h : H a = some o) : H' a = some o := e a o n h
theorem upL {K : PySem.W.Frag} {H H' : Hp} {a : Addr} {xs : List V} (e : Same H H') (h : SqL K H a xs) : SqL K H' a xs := e.seq h
theorem upLB {K : PySem.W.Frag} {H H' : Hp} {l a : Addr} {xs : List V} (e : But l H H') (n : a ≠ l) (h : SqL K H a xs) : SqL K H' a xs := by
  rcases h with (h | ⟨o, h⟩) | h
  · exact .inl (.inl (e _ _ n h))
  · exact .inl (.inr ⟨o, e _ _ n h⟩)
  · exact .inr h
theorem upT {K : PySem.W.Frag} {H H' : Hp} {a : Addr} {xs : List V} (e : Same H H') (h : SqT K H a xs) : SqT K H' a xs := by
  rcases h with (h | ⟨o, h⟩) | h
  · exact .inl (.inl (e _ _ h))
  · exact .inl (.inr ⟨o, e _ _ h⟩)
  · exact .inr h
theorem upTB {K : PySem.W.Frag} {H H' : Hp} {l a : Addr} {xs : List V} (e : But l H H') (n : a ≠ l) (h : SqT K H a xs) : SqT K H' a xs := by
  rcases h with (h | ⟨o, h⟩) | h
  · exact .inl (.inl (e _ _ n h))
  · exact .inl (.inr ⟨o, e _ _ n h⟩)
  · exact .inr h
theorem sqL {K : PySem.W.Frag} {H : Hp} {a : Addr} {xs : List V} (h : H a = some (.lst xs)) : SqL K H a xs := .inl (.inl h)
theorem sqT {K : PySem.W.Frag} {H : Hp} {a : Addr} {xs : List V} (h : H a = some (.tup xs)) : SqT K H a xs := .inl (.inl h)
theorem Same.tr {A m B : Hp} (h2 : Same m B) (h1 : Same A m) : Same A B := h1.trans h2
/-- a new object changed: the elder heap stays -/
theorem Same.but {A m B : Hp} {l : Addr} (b : But l m B) (n : A l = none) (h1 : Same A m) : Same A B := fun a o e => b a o (ne_of_none e n) (h1 a o e)
theorem But.tr {A m B : Hp} {l : Addr} (h2 : Same m B) (h1 : But l A m) : But l A B := fun a o n e => h2 a o (h1 a o n e)
theorem But.of {A B : Hp} {l : Addr} (h : Same A B) : But l A B := fun a o _ e => h a o e
theorem But.but {A m B : Hp} {l : Addr} (h2 : But l m B) (h1 : But l A m) : But l A B := fun a o n e => h2 a o n (h1 a o n e)
theorem But.but2 {A m B : Hp} {l k : Addr} (h2 : But k m B) (n : A k = none) (h1 : But l A m) : But l A B := fun a o ne e => h2 a o (ne_of_none e n) (h1 a o ne e)
theorem fr {A B : Hp} {p : Addr} (h : B p = none) (e : Same A B) : A p = none := e.free h
theorem frB {A B : Hp} {l p : Addr} (h : B p = none) (n : p ≠ l) (e : But l A B) : A p = none := by
  cases q : A p with
  | none => rfl
  | some o =>
    rw [e p o n q] at h
    cases h
theorem ne1 {H : Hp} {a l : Addr} {o : HO} (h : H l = none) (h2 : H a = some o) : a ≠ l := ne_of_none h2 h

theorem szl {n : Nat} (h : n ≤ 16777216) : n ≤ sizeLine := by rw [sizeLine_eq]; exact h
theorem szlt {n : Nat} (h : n < 16777216) : n < sizeLine := by rw [sizeLine_eq]; exact h
theorem len_empty : Str.empty.length = 0 := rfl
theorem len_app (a b : Str) : (a ++ b).length = a.length + b.length := Str.length_append a b
/-! ### data -/
mutual
theorem dpUp {K : PySem.W.Frag} {H H' : Hp} (e : Same H H') : ∀ {v : V} {d : PyData}, Dp K H v d → Dp K H' v d
  | _, _, .non => .non
  | _, _, .bl b => .bl b
  | _, _, .int i => .int i
  | _, _, .str x => .str x
  | _, _, .lst h r => .lst (upL e h) (dpsUp e r)
  | _, _, .tup h r => .tup (upT e h) (dpsUp e r)
theorem dpsUp {K : PySem.W.Frag} {H H' : Hp} (e : Same H H') : ∀ {vs : List V} {ds : List PyData}, DpAll K H vs ds → DpAll K H' vs ds
  | _, _, .nil => .nil
  | _, _, .cons h r => .cons (dpUp e h) (dpsUp e r)
end

/-! ### readings, one step -/
section
variable {K : PySem.W.Frag} {σ : L2.St} {H : Hp} {Q : VK} {QB : Bool → Hp → Prop} {QA : List V → Hp → Prop} {ta tb tc te : TE} {tA tB' : TT} {tr : TA} {r r' : R2} {v : V} {i j : Int} {D : Ends} {t u : TS} {g : TG} {b : Bool}
theorem r_var {n : Nat} (h : σ[n]? = some (some v)) (q : Q v H) : tVar n σ H Q := ⟨v, h, q⟩
theorem r_c (q : Q v H) : tC v σ H Q := q
theorem r_op (q : ta σ H fun x H1 => tb σ H1 fun y H2 => r x y H2 Q) : tOp r ta tb σ H Q := q
theorem r_un {ru : V → Hp → VK → Prop} (q : ta σ H fun x H1 => ru x H1 Q) : tUn ru ta σ H Q := q
theorem r_I0 {f : Int → Int → V} (q : Q (f i j) H) : rI0 f (.int i) (.int j) H Q := ⟨i, j, rfl, rfl, q⟩
theorem r_I {C : Int → Int → Prop} {f : Int → Int → V} (q : Q (f i j) H) (c : C i j) : rI C f (.int i) (.int j) H Q := ⟨i, j, rfl, rfl, c, q⟩
theorem r_U {f : Int → V} (q : Q (f i) H) : rU f (.int i) H Q := ⟨i, rfl, q⟩
theorem r_addI (q : Q (.int (i + j)) H) : rAddP K (.int i) (.int j) H Q := .inl ⟨i, j, rfl, rfl, q⟩
theorem r_addS {x y : Str} (q : Q (.str (x ++ y)) H) (h : x.length + y.length ≤ sizeLine) : rAddP K (.str x) (.str y) H Q := .inr (.inl ⟨x, y, rfl, rfl, h, q⟩)
theorem r_addL {l m : Addr} {xs ys : List V} (h1 : H l = some (.lst xs)) (h2 : H m = some (.lst ys)) (q : ∀ p H', H p = none → Same H H' → H' p = some (.lst (xs ++ ys)) → Q (.ref p) H') (h : xs.length + ys.length ≤ sizeLine) : rAddP K (.ref l) (.ref m) H Q :=
  .inr (.inr (.inl ⟨l, m, xs, ys, rfl, rfl, h1, h2, h, fun p hp => q p _ hp (Same.new hp) upd_same⟩))
theorem r_mulI (q : Q (.int (i * j)) H) (c : CMulP i j) : rMulP (.int i) (.int j) H Q := .inl ⟨i, j, rfl, rfl, c, q⟩
theorem r_sub (q : Q (.int (i - j)) H) : rSub (.int i) (.int j) H Q := ⟨i, j, rfl, rfl, q⟩
theorem r_mod (q : Q (.int (i % j)) H) (c : 0 < j) : rMod (.int i) (.int j) H Q := ⟨i, j, rfl, rfl, c, q⟩
theorem r_div (q : Q (.int (i / j)) H) (c : CDivP i j) : rDiv (.int i) (.int j) H Q := ⟨i, j, rfl, rfl, c, q⟩
theorem r_pow (q : Q (.int (i ^ j.toNat)) H) (c : CPow i j) : rPow (.int i) (.int j) H Q := ⟨i, j, rfl, rfl, c, q⟩
theorem p10_6 (q : Q (.int 1000000) H) : rPow (.int 10) (.int 6) H Q := ⟨10, 6, rfl, rfl, by unfold CPow; decide, q⟩
theorem p10_8 (q : Q (.int 100000000) H) : rPow (.int 10) (.int 8) H Q := ⟨10, 8, rfl, rfl, by unfold CPow; decide, q⟩
theorem p10_9 (q : Q (.int 1000000000) H) : rPow (.int 10) (.int 9) H Q := ⟨10, 9, rfl, rfl, by unfold CPow; decide, q⟩
theorem p10_18 (q : Q (.int 1000000000000000000) H) : rPow (.int 10) (.int 18) H Q := ⟨10, 18, rfl, rfl, by unfold CPow; decide, q⟩
theorem r_eq {x y : V} (q : Q (.bl (decide (x = y))) H) (h : scal x y = true) : rEqP K x y H Q := .inl ⟨h, q⟩
theorem r_ne {x y : V} (q : Q (.bl (!decide (x = y))) H) (h : scal x y = true) : rNeP K x y H Q := .inl ⟨h, q⟩
theorem r_eqI (q : Q (.bl (decide (i = j))) H) : rEqP K (.int i) (.int j) H Q := .inl ⟨rfl, by
  rw [show decide (V.int i = V.int j) = decide (i = j) by simp]
  exact q⟩
theorem r_neI (q : Q (.bl (!decide (i = j))) H) : rNeP K (.int i) (.int j) H Q := .inl ⟨rfl, by
  rw [show decide (V.int i = V.int j) = decide (i = j) by simp]
  exact q⟩
theorem r_eqS {x y : Str} (q : Q (.bl (decide (x = y))) H) : rEqP K (.str x) (.str y) H Q := .inl ⟨rfl, by
  rw [show decide (V.str x = V.str y) = decide (x = y) by simp]
  exact q⟩
theorem r_neS {x y : Str} (q : Q (.bl (!decide (x = y))) H) : rNeP K (.str x) (.str y) H Q := .inl ⟨rfl, by
  rw [show decide (V.str x = V.str y) = decide (x = y) by simp]
  exact q⟩
theorem r_eqD {x y : V} {d e : PyData} (hd : Dp K H x d) (he : Dp K H y e) (q : Q (.bl (PyData.eqv d e)) H) (h1 : SeqAt.shaped d = true) (h2 : SeqAt.shaped e = true) : rEqP K x y H Q := .inr ⟨d, e, hd, he, h1, h2, q⟩
theorem r_neD {x y : V} {d e : PyData} (hd : Dp K H x d) (he : Dp K H y e) (q : Q (.bl (!PyData.eqv d e)) H) (h1 : SeqAt.shaped d = true) (h2 : SeqAt.shaped e = true) : rNeP K x y H Q := .inr ⟨d, e, hd, he, h1, h2, q⟩
theorem r_lt (q : Q (.bl (decide (i < j))) H) : rLtI (.int i) (.int j) H Q := ⟨i, j, rfl, rfl, q⟩
theorem r_le (q : Q (.bl (decide (i ≤ j))) H) : rLeI (.int i) (.int j) H Q := ⟨i, j, rfl, rfl, q⟩
theorem r_gt (q : Q (.bl (decide (j < i))) H) : rGtI (.int i) (.int j) H Q := ⟨i, j, rfl, rfl, q⟩
theorem r_ge (q : Q (.bl (decide (j ≤ i))) H) : rGeI (.int i) (.int j) H Q := ⟨i, j, rfl, rfl, q⟩
theorem r_isN (q : Q (.bl true) H) : rIs .non .non H Q := ⟨rfl, q⟩
theorem r_isI (q : Q (.bl false) H) : rIs (.int i) .non H Q := ⟨rfl, q⟩
theorem r_isS {x : Str} (q : Q (.bl false) H) : rIs (.str x) .non H Q := ⟨rfl, q⟩
theorem r_isR {x : Addr} (q : Q (.bl false) H) : rIs (.ref x) .non H Q := ⟨rfl, q⟩
theorem r_isB {x : Bool} (q : Q (.bl false) H) : rIs (.bl x) .non H Q := ⟨rfl, q⟩
theorem r_notN (q : Q (.bl false) H) : rIsNot .non .non H Q := ⟨rfl, q⟩
theorem r_notI (q : Q (.bl true) H) : rIsNot (.int i) .non H Q := ⟨rfl, q⟩
theorem r_notS {x : Str} (q : Q (.bl true) H) : rIsNot (.str x) .non H Q := ⟨rfl, q⟩
theorem r_notR {x : Addr} (q : Q (.bl true) H) : rIsNot (.ref x) .non H Q := ⟨rfl, q⟩
theorem r_inT {c : Nat} {z : Str} (q : Q (.bl (decide (c ∈ z.cps.toList))) H) : rInP K false (.str ⟨#[c]⟩) (.str z) H Q := .inl ⟨c, z, rfl, rfl, q⟩
theorem r_notInT {c : Nat} {z : Str} (q : Q (.bl (!decide (c ∈ z.cps.toList))) H) : rInP K true (.str ⟨#[c]⟩) (.str z) H Q := .inl ⟨c, z, rfl, rfl, q⟩
theorem r_inL {x : V} {p : Addr} {xs : List V} (hp : SqL K H p xs) (q : Q (.bl (inV x xs)) H) (fx : flatV x = true) (fs : xs.all flatV = true) : rInP K false x (.ref p) H Q := .inr ⟨p, xs, rfl, .inl hp, fx, fs, q⟩
theorem r_notInL {x : V} {p : Addr} {xs : List V} (hp : SqL K H p xs) (q : Q (.bl (!inV x xs)) H) (fx : flatV x = true) (fs : xs.all flatV = true) : rInP K true x (.ref p) H Q := .inr ⟨p, xs, rfl, .inl hp, fx, fs, q⟩
theorem r_ixL {p : Addr} {xs : List V} (h : SqL K H p xs) (a : atI xs i = some v) (q : Q v H) : rIx K (.ref p) (.int i) H Q := .inl ⟨p, xs, i, v, rfl, rfl, h, a, q⟩
theorem r_ixT {p : Addr} {xs : List V} (h : SqT K H p xs) (a : atI xs i = some v) (q : Q v H) : rIx K (.ref p) (.int i) H Q := .inr (.inl ⟨p, xs, i, v, rfl, rfl, h, a, q⟩)
theorem r_ixS {z : Str} {c : Nat} (h : z.length ≤ sizeLine) (a : atI z.cps.toList i = some c) (q : Q (.str ⟨#[c]⟩) H) : rIx K (.str z) (.int i) H Q := .inr (.inr ⟨z, i, c, rfl, rfl, h, a, q⟩)
/-- slices -/
theorem r_slL {p : Addr} {xs : List V} {lo hi : Option Int} (h : SqL K H p xs) (q : ∀ p H', H p = none → Same H H' → H' p = some (.lst (cutV xs lo hi)) → Q (.ref p) H') : rSlP K (.ref p) lo hi H Q := .inl ⟨p, xs, rfl, h, fun p hp => q p _ hp (Same.new hp) upd_same⟩
theorem r_slS {z : Str} {lo hi : Option Int} (q : Q (.str (cutS z lo hi)) H) (h : z.length ≤ sizeLine) : rSlP K (.str z) lo hi H Q := .inr (.inl ⟨z, rfl, h, q⟩)
theorem r_sl {rs : V → Option Int → Option Int → Hp → VK → Prop} {tl th : TO} (q : te σ H fun x H1 => tl σ H1 fun l H2 => th σ H2 fun u H3 => rs x l u H3 Q) : tSl rs te tl th σ H Q := q
theorem r_part {QO : Option Int → Hp → Prop} (q : te σ H fun x H1 => ∃ i, x = .int i ∧ QO (some i) H1) : tPart te σ H QO := q
theorem r_exI {QO : Int → Prop} (q : QO i) : ∃ k, V.int i = .int k ∧ QO k := ⟨i, rfl, q⟩
theorem r_noPart {QO : Option Int → Hp → Prop} (q : QO none H) : tNoPart σ H QO := q
/-- displays -/
def NewT (xs : List V) (H : Hp) (Q : VK) : Prop := xs.length ≤ sizeLine ∧ ∀ p, H p = none → Q (.ref p) (upd H p (.tup xs))
def NewL (xs : List V) (H : Hp) (Q : VK) : Prop := xs.length ≤ sizeLine ∧ ∀ p, H p = none → Q (.ref p) (upd H p (.lst xs))
theorem r_tup (q : tr σ H fun xs H1 => NewT xs H1 Q) : tTup tr σ H Q := q
theorem r_lst (q : tr σ H fun xs H1 => NewL xs H1 Q) : tLst tr σ H Q := q
theorem r_newT {xs : List V} (q : ∀ p H', H p = none → Same H H' → H' p = some (.tup xs) → Q (.ref p) H') (h : xs.length ≤ sizeLine) : NewT xs H Q := ⟨h, fun p hp => q p _ hp (Same.new hp) upd_same⟩
theorem r_newL {xs : List V} (q : ∀ p H', H p = none → Same H H' → H' p = some (.lst xs) → Q (.ref p) H') (h : xs.length ≤ sizeLine) : NewL xs H Q := ⟨h, fun p hp => q p _ hp (Same.new hp) upd_same⟩
theorem r_new {xs : List V} (q : ∀ p H', H p = none → Same H H' → H' p = some (.lst xs) → Q (.ref p) H') : ∀ p, H p = none → Q (.ref p) (upd H p (.lst xs)) := fun p hp => q p _ hp (Same.new hp) upd_same
theorem r_nil (q : QA [] H) : tNil σ H QA := q
theorem r_cons (q : ta σ H fun x H1 => tr σ H1 fun xs H2 => QA (x :: xs) H2) : tCons ta tr σ H QA := q
theorem r_CB {rc : List V → Hp → VK → Prop} (q : tr σ H fun vs H1 => rc vs H1 Q) : tCB rc tr σ H Q := q
theorem r_call {sp : Sp} {dvs : List V} {E : XK} (q : tr σ H fun vs H1 => sp (vs ++ dvs) H1 Q E) : tCall sp dvs E tr σ H Q := q
theorem r_BM {T : String} {rm : V → List V → Hp → VK → Prop} (q : te σ H fun x H1 => tyV K T x H1 ∧ tr σ H1 fun xs H2 => rm x xs H2 Q) : tBM K T rm te tr σ H Q := q
theorem r_BM0 {T : String} {rm : V → List V → Hp → VK → Prop} (q : te σ H fun x H1 => tyV K T x H1 ∧ rm x [] H1 Q) : tBM0 K T rm te σ H Q := q
theorem r_abs (q : Q (.int (i.natAbs : Nat)) H) : cAbs [.int i] H Q := ⟨i, rfl, by
  rw [show (if i < 0 then -i else i) = ((i.natAbs : Nat) : Int) by split <;> omega]
  exact q⟩
theorem r_max (q : Q (.int (if j > i then j else i)) H) : cMax [.int i, .int j] H Q := ⟨i, j, rfl, q⟩
theorem r_min (q : Q (.int (if j < i then j else i)) H) : cMin [.int i, .int j] H Q := ⟨i, j, rfl, q⟩
theorem r_lenL {p : Addr} {xs : List V} (h : SqL K H p xs) (q : Q (.int (xs.length : Nat)) H) : cLen K [.ref p] H Q := ⟨_, _, rfl, .inl ⟨xs, h, rfl⟩, q⟩
theorem r_lenT {p : Addr} {xs : List V} (h : SqT K H p xs) (q : Q (.int (xs.length : Nat)) H) : cLen K [.ref p] H Q := ⟨_, _, rfl, .inr ⟨xs, h, rfl⟩, q⟩
theorem r_lenS {z : Str} (q : Q (.int (z.length : Nat)) H) (h : z.length ≤ sizeLine) : cLen K [.str z] H Q := ⟨_, _, rfl, ⟨h, rfl⟩, q⟩
theorem r_strI (q : Q (.str (toString i)) H) (h : i.natAbs.log2 < 1920) : cStr [.int i] H Q := ⟨i, rfl, h, q⟩
theorem r_intS {z : Str} {n : Int} (h : PySem.intText? z = some n) (q : Q (.int n) H) (hl : z.length ≤ 640) : cInt [.str z] H Q := ⟨z, n, rfl, h, hl, q⟩
theorem r_listL {p : Addr} {xs : List V} (h : SqL K H p xs) (q : ∀ p H', H p = none → Same H H' → H' p = some (.lst xs) → Q (.ref p) H') : cList K [.ref p] H Q := ⟨p, xs, rfl, .inl h, fun p hp => q p _ hp (Same.new hp) upd_same⟩
theorem r_listT {p : Addr} {xs : List V} (h : SqT K H p xs) (q : ∀ p H', H p = none → Same H H' → H' p = some (.lst xs) → Q (.ref p) H') : cList K [.ref p] H Q := ⟨p, xs, rfl, .inr h, fun p hp => q p _ hp (Same.new hp) upd_same⟩
theorem r_all {p : Addr} {bs : List Bool} (h : SqL K H p (bs.map V.bl)) (q : Q (.bl (bs.all id)) H) : rAll K [.ref p] H Q := ⟨p, bs, rfl, h, q⟩
theorem r_any {p : Addr} {bs : List Bool} (h : SqL K H p (bs.map V.bl)) (q : Q (.bl (bs.any id)) H) : rAny K [.ref p] H Q := ⟨p, bs, rfl, h, q⟩
/-- isinstance(x, T), T built-in -/
theorem r_isi {x : V} {a c : String} {k : Bool} (ty : TyX K H x (.type a)) (q : Q (.bl k) H) (h : kitB a c = some k) : rIsi K [x, .ty c] H Q := ⟨x, .ty c, .type a, .type c, k, rfl, .ty c, ty, kit_ty h, q⟩
theorem ty_int : TyX K H (.int i) (.type "int") := .base (.int i)
theorem ty_bl : TyX K H (.bl b) (.type "bool") := .base (.bl b)
theorem ty_str {x : Str} : TyX K H (.str x) (.type "str") := .base (.str x)
theorem ty_non : TyX K H .non (.type "NoneType") := .base .non
theorem r_isiHd {x : V} {c : String} (q : rIsi K [x, .ty c] H Q) : rIsi K [x, .ty c] H Q := q
theorem ty_lst {p : Addr} {xs : List V} (h : H p = some (.lst xs)) : TyX K H (.ref p) (.type "list") := .base (.lst h)
theorem ty_tup {p : Addr} {xs : List V} (h : H p = some (.tup xs)) : TyX K H (.ref p) (.type "tuple") := .base (.tup h)
/-- methods -/
theorem r_append {l : Addr} {xs : List V} (h : H l = some (.lst xs)) (q : ∀ H', But l H H' → H' l = some (.lst (xs ++ [v])) → Q .non H') (hz : xs.length < sizeLine) : tyV K "list" (.ref l) H ∧ rAppend (.ref l) [v] H Q :=
  ⟨.inl ⟨rfl, _, .inl (.inl h)⟩, l, xs, v, rfl, rfl, h, hz, q _ But.upd upd_same⟩
theorem r_tyL {l : Addr} {xs : List V} (h : H l = some (.lst xs)) {A : Prop} (q : A) : tyV K "list" (.ref l) H ∧ A := ⟨.inl ⟨rfl, _, .inl (.inl h)⟩, q⟩
theorem r_appendQ {l : Addr} {xs : List V} (h : H l = some (.lst xs)) (q : ∀ H', But l H H' → H' l = some (.lst (xs ++ [v])) → Q .non H') (hz : xs.length < sizeLine) : rAppend (.ref l) [v] H Q :=
  ⟨l, xs, v, rfl, rfl, h, hz, q _ But.upd upd_same⟩
theorem r_tyS {x : Str} {A : Prop} (q : A) : tyV K "str" (.str x) H ∧ A := ⟨rfl, q⟩
theorem r_split {x y : Str} (q : ∀ p H', H p = none → Same H H' → H' p = some (.lst ((Txt.split x y).map V.str)) → Q (.ref p) H') (h : (y.length == 0) = false) (hz : x.length + 2 ≤ sizeLine) : mSplit (.str x) [.str y] H Q :=
  ⟨x, y, rfl, rfl, h, hz, fun p hp => q p _ hp (Same.new hp) upd_same⟩
/-- o[i] = v, o a list -/
theorem r_subTg {to ti : TE} {tset : TSet} {QS : L2.St → Hp → Prop} (q : to σ H fun o H1 => ti σ H1 fun k H2 => tset o k v H2 fun H3 => QS σ H3) : gSub to ti tset v σ H QS := q
theorem r_setL {l : Addr} {xs : List V} {n : Nat} {QH : Hp → Prop} (h : H l = some (.lst xs)) (hi : ixN xs.length i = some n) (q : ∀ H', But l H H' → H' l = some (.lst (xs.set n v)) → QH H') : rSetL (.ref l) (.int i) v H QH :=
  ⟨l, xs, i, n, rfl, rfl, h, hi, q _ But.upd upd_same⟩
/-- f-strings -/
def rFmt : V → Hp → VK → Prop := fun x H Q => (∃ y : Str, x = .str y ∧ y.length ≤ sizeLine ∧ Q (.str y) H) ∨ ∃ i : Int, x = .int i ∧ i.natAbs.log2 < 1920 ∧ Q (.str (toString i)) H
theorem r_fmtI (q : Q (.str (toString i)) H) (h : i.natAbs.log2 < 1920) : rFmt (.int i) H Q := .inr ⟨i, rfl, h, q⟩
theorem r_fmtS {x : Str} (q : Q (.str x) H) (h : x.length ≤ sizeLine) : rFmt (.str x) H Q := .inl ⟨x, rfl, h, q⟩
theorem r_fmt (q : te σ H fun x H1 => rFmt x H1 Q) : tFmt te σ H Q := q
theorem r_joined {ts : List TE} {acc : Str} (q : tJs ts acc σ H fun out H1 => Q (.str out) H1) : (fun σ H Q => tJs ts acc σ H fun out H1 => Q (.str out) H1) σ H Q := q
theorem r_js0 {acc : Str} {QS : Str → Hp → Prop} (q : QS acc H) : tJs [] acc σ H QS := q
theorem r_js {ts : List TE} {acc : Str} {QS : Str → Hp → Prop} (q : te σ H fun x H1 => ∃ y : Str, x = .str y ∧ (acc ++ y).length ≤ sizeLine ∧ tJs ts (acc ++ y) σ H1 QS) : tJs (te :: ts) acc σ H QS := q
theorem r_jsS {ts : List TE} {acc x : Str} {QS : Str → Hp → Prop} (q : tJs ts (acc ++ x) σ H QS) (h : (acc ++ x).length ≤ sizeLine) : ∃ y : Str, V.str x = .str y ∧ (acc ++ y).length ≤ sizeLine ∧ tJs ts (acc ++ y) σ H QS := ⟨x, rfl, h, q⟩
/-- tests -/
theorem r_test (q : te σ H fun x H' => ∃ k, x = .bl k ∧ QB k H') : tTest te σ H QB := q
theorem r_tB (q : te σ H fun x H' => ∃ k, x = .bl k ∧ QB k H') : tB te σ H QB := q
theorem r_exB {QQ : Bool → Prop} (q : QQ b) : ∃ k, V.bl b = .bl k ∧ QQ k := ⟨b, rfl, q⟩
theorem r_and (q : tA σ H fun c H1 => if c = true then tB' σ H1 QB else QB false H1) : tAnd tA tB' σ H QB := q
theorem r_or (q : tA σ H fun c H1 => if c = true then QB true H1 else tB' σ H1 QB) : tOr tA tB' σ H QB := q
theorem r_not (q : tA σ H fun c H1 => QB (!c) H1) : tNot tA σ H QB := q
theorem r_andV (q : ta σ H fun x H1 => ∃ c, x = .bl c ∧ if c = true then tb σ H1 Q else Q (.bl false) H1) : tAndV ta tb σ H Q := q
theorem r_orV (q : ta σ H fun x H1 => ∃ c, x = .bl c ∧ if c = true then Q (.bl true) H1 else tb σ H1 Q) : tOrV ta tb σ H Q := q
theorem r_notV (q : ta σ H fun x H1 => ∃ c, x = .bl c ∧ Q (.bl (!c)) H1) : tNotV ta σ H Q := q
theorem r_chain (q : ta σ H fun x H1 => tb σ H1 fun y H2 => r x y H2 fun z H3 => ∃ k, z = .bl k ∧ (if k = true then tc σ H3 fun w' H4 => r' y w' H4 Q else Q (.bl false) H3)) : tChain r r' ta tb tc σ H Q := q
theorem r_ifE (q : tA σ H fun c H1 => if c = true then ta σ H1 Q else tb σ H1 Q) : tIf tA ta tb σ H Q := q
/-- known outcomes -/
theorem r_T {A B : Prop} (h : A) : if true = true then A else B := by rw [if_pos rfl]; exact h
theorem r_F {A B : Prop} (h : B) : if false = true then A else B := by rw [if_neg Bool.false_ne_true]; exact h
theorem r_nT {A B : Prop} (h : B) : if (!true) = true then A else B := r_F h
theorem r_nF {A B : Prop} (h : A) : if (!false) = true then A else B := r_T h
theorem r_dT {p : Prop} [Decidable p] {A B : Prop} (hp : p) (h : A) : if decide p = true then A else B := by rw [decide_eq_true hp]; exact r_T h
theorem r_dF {p : Prop} [Decidable p] {A B : Prop} (hp : ¬ p) (h : B) : if decide p = true then A else B := by rw [decide_eq_false hp]; exact r_F h
theorem r_ndT {p : Prop} [Decidable p] {A B : Prop} (hp : p) (h : B) : if (!decide p) = true then A else B := by rw [decide_eq_true hp]; exact r_F h
theorem r_ndF {p : Prop} [Decidable p] {A B : Prop} (hp : ¬ p) (h : A) : if (!decide p) = true then A else B := by rw [decide_eq_false hp]; exact r_T h
theorem r_bT {c : Bool} {A B : Prop} (hc : c = true) (h : A) : if c = true then A else B := by rw [hc]; exact r_T h
theorem r_bF {c : Bool} {A B : Prop} (hc : c = false) (h : B) : if c = true then A else B := by rw [hc]; exact r_F h
theorem r_ite {p : Prop} [Decidable p] {A B : Prop} (h1 : p → A) (h2 : ¬ p → B) : if decide p = true then A else B := by
  by_cases h : p
  · exact r_dT h (h1 h)
  · exact r_dF h (h2 h)
theorem r_nite {p : Prop} [Decidable p] {A B : Prop} (h1 : ¬ p → A) (h2 : p → B) : if (!decide p) = true then A else B := by
  by_cases h : p
  · exact r_ndT h (h2 h)
  · exact r_ndF h (h1 h)
theorem r_bite {c : Bool} {A B : Prop} (h1 : c = true → A) (h2 : c = false → B) : if c = true then A else B := by
  cases c with
  | true => exact r_T (h1 rfl)
  | false => exact r_F (h2 rfl)
/-- statements -/
theorem r_seq (q : t { D with nx := u D } σ H) : tSeq t u D σ H := q
theorem r_cut (Mid : L2.St → Hp → Prop) (h1 : t { D with nx := Mid } σ H) (h2 : ∀ σ' H', Mid σ' H' → u D σ' H') : Evl.tCut t u D σ H := ⟨Mid, h1, h2⟩
theorem r_next (q : D.nx σ H) : tNext D σ H := q
theorem r_asg (q : te σ H fun x H1 => g x σ H1 D.nx) : tAsg te g D σ H := q
theorem r_par {m n : Nat} {tr : TA} (q : tr σ H fun vs H1 => ∃ v w, vs = [v, w] ∧ D.nx ((σ.set m (some v)).set n (some w)) H1) : tPar m n tr D σ H := q
theorem r_par2 {m n : Nat} {x y : V} (q : (gName m x σ H fun σ' H' => gName n y σ' H' D.nx)) : ∃ v w, [x, y] = [v, w] ∧ D.nx ((σ.set m (some v)).set n (some w)) H := ⟨x, y, rfl, q⟩
theorem r_drop (q : te σ H fun _ H1 => D.nx σ H1) : tDrop te D σ H := q
theorem r_ret (q : te σ H D.rt) : tRet te D σ H := q
theorem r_retN (q : D.rt .non H) : tRetN D σ H := q
theorem r_ifS (q : tA σ H fun b H1 => if b = true then t D σ H1 else u D σ H1) : tIfS tA t u D σ H := q
theorem r_brk (q : D.bk σ H) : tBreak D σ H := q
theorem r_cnt (q : D.ct σ H) : tCont D σ H := q
theorem r_tg {n : Nat} {ts : TGs} {a : Addr} {xs : List V} {QS : L2.St → Hp → Prop} (h : SqT K H a xs) (q : ts xs σ H QS) (hl : xs.length = n) : gTup K n ts (.ref a) σ H QS := ⟨a, xs, rfl, h, hl, q⟩
theorem r_gnil {QS : L2.St → Hp → Prop} (q : QS σ H) : gNil [] σ H QS := ⟨rfl, q⟩
theorem r_gcons {ts : TGs} {x : V} {xs : List V} {QS : L2.St → Hp → Prop} (q : g x σ H fun σ' H' => ts xs σ' H' QS) : gCons g ts (x :: xs) σ H QS := ⟨x, xs, rfl, q⟩
theorem r_aug {n : Nat} {f : Int → Int → Int} (h : σ[n]? = some (some (.int i))) (q : te σ H fun y H1 => ∃ k, y = .int k ∧ gName n (.int (f i k)) σ H1 D.nx) : tAug n te (ipI f) D σ H := by
  refine ⟨_, h, ?_⟩
  have e : (fun y H1 => ∃ k, y = V.int k ∧ gName n (.int (f i k)) σ H1 D.nx) = fun y H1 => ipI f (.int i) y H1 fun z H2 => D.nx (σ.set n (some z)) H2 := by
    funext y H1
    apply propext
    constructor
    · rintro ⟨k, rfl, h⟩
      exact ⟨i, k, rfl, rfl, h⟩
    · rintro ⟨a, k, e, rfl, h⟩
      cases e
      exact ⟨k, rfl, h⟩
  rw [← e]
  exact q
end
/-! names stored, by place -/
section
variable {H : Hp} {v : V} {QS : L2.St → Hp → Prop} {r : L2.St} {a0 a1 a2 a3 a4 a5 a6 a7 a8 a9 b0 b1 b2 b3 b4 b5 b6 b7 b8 b9 : Option V}
theorem v0 {w : V} {QV : VK} (q : QV w H) : tVar 0 (some w :: r) H QV := ⟨w, rfl, q⟩
theorem v1 {w : V} {QV : VK} (q : QV w H) : tVar 1 (a0 :: some w :: r) H QV := ⟨w, rfl, q⟩
theorem v2 {w : V} {QV : VK} (q : QV w H) : tVar 2 (a0 :: a1 :: some w :: r) H QV := ⟨w, rfl, q⟩
theorem v3 {w : V} {QV : VK} (q : QV w H) : tVar 3 (a0 :: a1 :: a2 :: some w :: r) H QV := ⟨w, rfl, q⟩
theorem v4 {w : V} {QV : VK} (q : QV w H) : tVar 4 (a0 :: a1 :: a2 :: a3 :: some w :: r) H QV := ⟨w, rfl, q⟩
theorem v5 {w : V} {QV : VK} (q : QV w H) : tVar 5 (a0 :: a1 :: a2 :: a3 :: a4 :: some w :: r) H QV := ⟨w, rfl, q⟩
theorem v6 {w : V} {QV : VK} (q : QV w H) : tVar 6 (a0 :: a1 :: a2 :: a3 :: a4 :: a5 :: some w :: r) H QV := ⟨w, rfl, q⟩
theorem v7 {w : V} {QV : VK} (q : QV w H) : tVar 7 (a0 :: a1 :: a2 :: a3 :: a4 :: a5 :: a6 :: some w :: r) H QV := ⟨w, rfl, q⟩
theorem v8 {w : V} {QV : VK} (q : QV w H) : tVar 8 (a0 :: a1 :: a2 :: a3 :: a4 :: a5 :: a6 :: a7 :: some w :: r) H QV := ⟨w, rfl, q⟩
theorem v9 {w : V} {QV : VK} (q : QV w H) : tVar 9 (a0 :: a1 :: a2 :: a3 :: a4 :: a5 :: a6 :: a7 :: a8 :: some w :: r) H QV := ⟨w, rfl, q⟩
theorem v10 {w : V} {QV : VK} (q : QV w H) : tVar 10 (a0 :: a1 :: a2 :: a3 :: a4 :: a5 :: a6 :: a7 :: a8 :: a9 :: some w :: r) H QV := ⟨w, rfl, q⟩
theorem v11 {w : V} {QV : VK} (q : QV w H) : tVar 11 (a0 :: a1 :: a2 :: a3 :: a4 :: a5 :: a6 :: a7 :: a8 :: a9 :: b0 :: some w :: r) H QV := ⟨w, rfl, q⟩
theorem v12 {w : V} {QV : VK} (q : QV w H) : tVar 12 (a0 :: a1 :: a2 :: a3 :: a4 :: a5 :: a6 :: a7 :: a8 :: a9 :: b0 :: b1 :: some w :: r) H QV := ⟨w, rfl, q⟩
theorem v13 {w : V} {QV : VK} (q : QV w H) : tVar 13 (a0 :: a1 :: a2 :: a3 :: a4 :: a5 :: a6 :: a7 :: a8 :: a9 :: b0 :: b1 :: b2 :: some w :: r) H QV := ⟨w, rfl, q⟩
theorem v14 {w : V} {QV : VK} (q : QV w H) : tVar 14 (a0 :: a1 :: a2 :: a3 :: a4 :: a5 :: a6 :: a7 :: a8 :: a9 :: b0 :: b1 :: b2 :: b3 :: some w :: r) H QV := ⟨w, rfl, q⟩
theorem n0 (q : QS (some v :: r) H) : gName 0 v (a0 :: r) H QS := q
theorem n1 (q : QS (a0 :: some v :: r) H) : gName 1 v (a0 :: a1 :: r) H QS := q
theorem n2 (q : QS (a0 :: a1 :: some v :: r) H) : gName 2 v (a0 :: a1 :: a2 :: r) H QS := q
theorem n3 (q : QS (a0 :: a1 :: a2 :: some v :: r) H) : gName 3 v (a0 :: a1 :: a2 :: a3 :: r) H QS := q
theorem n4 (q : QS (a0 :: a1 :: a2 :: a3 :: some v :: r) H) : gName 4 v (a0 :: a1 :: a2 :: a3 :: a4 :: r) H QS := q
theorem n5 (q : QS (a0 :: a1 :: a2 :: a3 :: a4 :: some v :: r) H) : gName 5 v (a0 :: a1 :: a2 :: a3 :: a4 :: a5 :: r) H QS := q
theorem n6 (q : QS (a0 :: a1 :: a2 :: a3 :: a4 :: a5 :: some v :: r) H) : gName 6 v (a0 :: a1 :: a2 :: a3 :: a4 :: a5 :: a6 :: r) H QS := q
theorem n7 (q : QS (a0 :: a1 :: a2 :: a3 :: a4 :: a5 :: a6 :: some v :: r) H) : gName 7 v (a0 :: a1 :: a2 :: a3 :: a4 :: a5 :: a6 :: a7 :: r) H QS := q
theorem n8 (q : QS (a0 :: a1 :: a2 :: a3 :: a4 :: a5 :: a6 :: a7 :: some v :: r) H) : gName 8 v (a0 :: a1 :: a2 :: a3 :: a4 :: a5 :: a6 :: a7 :: a8 :: r) H QS := q
theorem n9 (q : QS (a0 :: a1 :: a2 :: a3 :: a4 :: a5 :: a6 :: a7 :: a8 :: some v :: r) H) : gName 9 v (a0 :: a1 :: a2 :: a3 :: a4 :: a5 :: a6 :: a7 :: a8 :: a9 :: r) H QS := q
theorem n10 (q : QS (a0 :: a1 :: a2 :: a3 :: a4 :: a5 :: a6 :: a7 :: a8 :: a9 :: some v :: r) H) : gName 10 v (a0 :: a1 :: a2 :: a3 :: a4 :: a5 :: a6 :: a7 :: a8 :: a9 :: b0 :: r) H QS := q
theorem n11 (q : QS (a0 :: a1 :: a2 :: a3 :: a4 :: a5 :: a6 :: a7 :: a8 :: a9 :: b0 :: some v :: r) H) : gName 11 v (a0 :: a1 :: a2 :: a3 :: a4 :: a5 :: a6 :: a7 :: a8 :: a9 :: b0 :: b1 :: r) H QS := q
theorem n12 (q : QS (a0 :: a1 :: a2 :: a3 :: a4 :: a5 :: a6 :: a7 :: a8 :: a9 :: b0 :: b1 :: some v :: r) H) : gName 12 v (a0 :: a1 :: a2 :: a3 :: a4 :: a5 :: a6 :: a7 :: a8 :: a9 :: b0 :: b1 :: b2 :: r) H QS := q
theorem n13 (q : QS (a0 :: a1 :: a2 :: a3 :: a4 :: a5 :: a6 :: a7 :: a8 :: a9 :: b0 :: b1 :: b2 :: some v :: r) H) : gName 13 v (a0 :: a1 :: a2 :: a3 :: a4 :: a5 :: a6 :: a7 :: a8 :: a9 :: b0 :: b1 :: b2 :: b3 :: r) H QS := q
theorem n14 (q : QS (a0 :: a1 :: a2 :: a3 :: a4 :: a5 :: a6 :: a7 :: a8 :: a9 :: b0 :: b1 :: b2 :: b3 :: some v :: r) H) : gName 14 v (a0 :: a1 :: a2 :: a3 :: a4 :: a5 :: a6 :: a7 :: a8 :: a9 :: b0 :: b1 :: b2 :: b3 :: b4 :: r) H QS := q
end

/-! isinstance -/
theorem q_int_int {i : Int} {K : PySem.W.Frag} {H : Hp} {Q : VK} (q : Q (.bl true) H) : rIsi K [.int i, .ty "int"] H Q := ⟨_, .ty "int", .type "int", .type "int", true, rfl, .ty "int", .base (.int i), kit_ty (by decide +kernel), q⟩
theorem q_int_bool {i : Int} {K : PySem.W.Frag} {H : Hp} {Q : VK} (q : Q (.bl false) H) : rIsi K [.int i, .ty "bool"] H Q := ⟨_, .ty "bool", .type "int", .type "bool", false, rfl, .ty "bool", .base (.int i), kit_ty (by decide +kernel), q⟩
theorem q_int_str {i : Int} {K : PySem.W.Frag} {H : Hp} {Q : VK} (q : Q (.bl false) H) : rIsi K [.int i, .ty "str"] H Q := ⟨_, .ty "str", .type "int", .type "str", false, rfl, .ty "str", .base (.int i), kit_ty (by decide +kernel), q⟩
theorem q_int_list {i : Int} {K : PySem.W.Frag} {H : Hp} {Q : VK} (q : Q (.bl false) H) : rIsi K [.int i, .ty "list"] H Q := ⟨_, .ty "list", .type "int", .type "list", false, rfl, .ty "list", .base (.int i), kit_ty (by decide +kernel), q⟩
theorem q_int_tuple {i : Int} {K : PySem.W.Frag} {H : Hp} {Q : VK} (q : Q (.bl false) H) : rIsi K [.int i, .ty "tuple"] H Q := ⟨_, .ty "tuple", .type "int", .type "tuple", false, rfl, .ty "tuple", .base (.int i), kit_ty (by decide +kernel), q⟩
theorem q_int_dict {i : Int} {K : PySem.W.Frag} {H : Hp} {Q : VK} (q : Q (.bl false) H) : rIsi K [.int i, .ty "dict"] H Q := ⟨_, .ty "dict", .type "int", .type "dict", false, rfl, .ty "dict", .base (.int i), kit_ty (by decide +kernel), q⟩
theorem q_bool_int {b : Bool} {K : PySem.W.Frag} {H : Hp} {Q : VK} (q : Q (.bl true) H) : rIsi K [.bl b, .ty "int"] H Q := ⟨_, .ty "int", .type "bool", .type "int", true, rfl, .ty "int", .base (.bl b), kit_ty (by decide +kernel), q⟩
theorem q_bool_bool {b : Bool} {K : PySem.W.Frag} {H : Hp} {Q : VK} (q : Q (.bl true) H) : rIsi K [.bl b, .ty "bool"] H Q := ⟨_, .ty "bool", .type "bool", .type "bool", true, rfl, .ty "bool", .base (.bl b), kit_ty (by decide +kernel), q⟩
theorem q_bool_str {b : Bool} {K : PySem.W.Frag} {H : Hp} {Q : VK} (q : Q (.bl false) H) : rIsi K [.bl b, .ty "str"] H Q := ⟨_, .ty "str", .type "bool", .type "str", false, rfl, .ty "str", .base (.bl b), kit_ty (by decide +kernel), q⟩
theorem q_bool_list {b : Bool} {K : PySem.W.Frag} {H : Hp} {Q : VK} (q : Q (.bl false) H) : rIsi K [.bl b, .ty "list"] H Q := ⟨_, .ty "list", .type "bool", .type "list", false, rfl, .ty "list", .base (.bl b), kit_ty (by decide +kernel), q⟩
theorem q_bool_tuple {b : Bool} {K : PySem.W.Frag} {H : Hp} {Q : VK} (q : Q (.bl false) H) : rIsi K [.bl b, .ty "tuple"] H Q := ⟨_, .ty "tuple", .type "bool", .type "tuple", false, rfl, .ty "tuple", .base (.bl b), kit_ty (by decide +kernel), q⟩
theorem q_bool_dict {b : Bool} {K : PySem.W.Frag} {H : Hp} {Q : VK} (q : Q (.bl false) H) : rIsi K [.bl b, .ty "dict"] H Q := ⟨_, .ty "dict", .type "bool", .type "dict", false, rfl, .ty "dict", .base (.bl b), kit_ty (by decide +kernel), q⟩
theorem q_str_int {x : Str} {K : PySem.W.Frag} {H : Hp} {Q : VK} (q : Q (.bl false) H) : rIsi K [.str x, .ty "int"] H Q := ⟨_, .ty "int", .type "str", .type "int", false, rfl, .ty "int", .base (.str x), kit_ty (by decide +kernel), q⟩
theorem q_str_bool {x : Str} {K : PySem.W.Frag} {H : Hp} {Q : VK} (q : Q (.bl false) H) : rIsi K [.str x, .ty "bool"] H Q := ⟨_, .ty "bool", .type "str", .type "bool", false, rfl, .ty "bool", .base (.str x), kit_ty (by decide +kernel), q⟩
theorem q_str_str {x : Str} {K : PySem.W.Frag} {H : Hp} {Q : VK} (q : Q (.bl true) H) : rIsi K [.str x, .ty "str"] H Q := ⟨_, .ty "str", .type "str", .type "str", true, rfl, .ty "str", .base (.str x), kit_ty (by decide +kernel), q⟩
theorem q_str_list {x : Str} {K : PySem.W.Frag} {H : Hp} {Q : VK} (q : Q (.bl false) H) : rIsi K [.str x, .ty "list"] H Q := ⟨_, .ty "list", .type "str", .type "list", false, rfl, .ty "list", .base (.str x), kit_ty (by decide +kernel), q⟩
theorem q_str_tuple {x : Str} {K : PySem.W.Frag} {H : Hp} {Q : VK} (q : Q (.bl false) H) : rIsi K [.str x, .ty "tuple"] H Q := ⟨_, .ty "tuple", .type "str", .type "tuple", false, rfl, .ty "tuple", .base (.str x), kit_ty (by decide +kernel), q⟩
theorem q_str_dict {x : Str} {K : PySem.W.Frag} {H : Hp} {Q : VK} (q : Q (.bl false) H) : rIsi K [.str x, .ty "dict"] H Q := ⟨_, .ty "dict", .type "str", .type "dict", false, rfl, .ty "dict", .base (.str x), kit_ty (by decide +kernel), q⟩
theorem q_NoneType_int  {K : PySem.W.Frag} {H : Hp} {Q : VK} (q : Q (.bl false) H) : rIsi K [.non, .ty "int"] H Q := ⟨_, .ty "int", .type "NoneType", .type "int", false, rfl, .ty "int", .base .non, kit_ty (by decide +kernel), q⟩
theorem q_NoneType_bool  {K : PySem.W.Frag} {H : Hp} {Q : VK} (q : Q (.bl false) H) : rIsi K [.non, .ty "bool"] H Q := ⟨_, .ty "bool", .type "NoneType", .type "bool", false, rfl, .ty "bool", .base .non, kit_ty (by decide +kernel), q⟩
theorem q_NoneType_str  {K : PySem.W.Frag} {H : Hp} {Q : VK} (q : Q (.bl false) H) : rIsi K [.non, .ty "str"] H Q := ⟨_, .ty "str", .type "NoneType", .type "str", false, rfl, .ty "str", .base .non, kit_ty (by decide +kernel), q⟩
theorem q_NoneType_list  {K : PySem.W.Frag} {H : Hp} {Q : VK} (q : Q (.bl false) H) : rIsi K [.non, .ty "list"] H Q := ⟨_, .ty "list", .type "NoneType", .type "list", false, rfl, .ty "list", .base .non, kit_ty (by decide +kernel), q⟩
theorem q_NoneType_tuple  {K : PySem.W.Frag} {H : Hp} {Q : VK} (q : Q (.bl false) H) : rIsi K [.non, .ty "tuple"] H Q := ⟨_, .ty "tuple", .type "NoneType", .type "tuple", false, rfl, .ty "tuple", .base .non, kit_ty (by decide +kernel), q⟩
theorem q_NoneType_dict  {K : PySem.W.Frag} {H : Hp} {Q : VK} (q : Q (.bl false) H) : rIsi K [.non, .ty "dict"] H Q := ⟨_, .ty "dict", .type "NoneType", .type "dict", false, rfl, .ty "dict", .base .non, kit_ty (by decide +kernel), q⟩
theorem q_list_int {p : Addr} {xs : List V} {K : PySem.W.Frag} {H : Hp} {Q : VK} (h : H p = some (.lst xs)) (q : Q (.bl false) H) : rIsi K [.ref p, .ty "int"] H Q := ⟨_, .ty "int", .type "list", .type "int", false, rfl, .ty "int", .base (.lst h), kit_ty (by decide +kernel), q⟩
theorem q_list_bool {p : Addr} {xs : List V} {K : PySem.W.Frag} {H : Hp} {Q : VK} (h : H p = some (.lst xs)) (q : Q (.bl false) H) : rIsi K [.ref p, .ty "bool"] H Q := ⟨_, .ty "bool", .type "list", .type "bool", false, rfl, .ty "bool", .base (.lst h), kit_ty (by decide +kernel), q⟩
theorem q_list_str {p : Addr} {xs : List V} {K : PySem.W.Frag} {H : Hp} {Q : VK} (h : H p = some (.lst xs)) (q : Q (.bl false) H) : rIsi K [.ref p, .ty "str"] H Q := ⟨_, .ty "str", .type "list", .type "str", false, rfl, .ty "str", .base (.lst h), kit_ty (by decide +kernel), q⟩
theorem q_list_list {p : Addr} {xs : List V} {K : PySem.W.Frag} {H : Hp} {Q : VK} (h : H p = some (.lst xs)) (q : Q (.bl true) H) : rIsi K [.ref p, .ty "list"] H Q := ⟨_, .ty "list", .type "list", .type "list", true, rfl, .ty "list", .base (.lst h), kit_ty (by decide +kernel), q⟩
theorem q_list_tuple {p : Addr} {xs : List V} {K : PySem.W.Frag} {H : Hp} {Q : VK} (h : H p = some (.lst xs)) (q : Q (.bl false) H) : rIsi K [.ref p, .ty "tuple"] H Q := ⟨_, .ty "tuple", .type "list", .type "tuple", false, rfl, .ty "tuple", .base (.lst h), kit_ty (by decide +kernel), q⟩
theorem q_list_dict {p : Addr} {xs : List V} {K : PySem.W.Frag} {H : Hp} {Q : VK} (h : H p = some (.lst xs)) (q : Q (.bl false) H) : rIsi K [.ref p, .ty "dict"] H Q := ⟨_, .ty "dict", .type "list", .type "dict", false, rfl, .ty "dict", .base (.lst h), kit_ty (by decide +kernel), q⟩
theorem q_tuple_int {p : Addr} {xs : List V} {K : PySem.W.Frag} {H : Hp} {Q : VK} (h : H p = some (.tup xs)) (q : Q (.bl false) H) : rIsi K [.ref p, .ty "int"] H Q := ⟨_, .ty "int", .type "tuple", .type "int", false, rfl, .ty "int", .base (.tup h), kit_ty (by decide +kernel), q⟩
theorem q_tuple_bool {p : Addr} {xs : List V} {K : PySem.W.Frag} {H : Hp} {Q : VK} (h : H p = some (.tup xs)) (q : Q (.bl false) H) : rIsi K [.ref p, .ty "bool"] H Q := ⟨_, .ty "bool", .type "tuple", .type "bool", false, rfl, .ty "bool", .base (.tup h), kit_ty (by decide +kernel), q⟩
theorem q_tuple_str {p : Addr} {xs : List V} {K : PySem.W.Frag} {H : Hp} {Q : VK} (h : H p = some (.tup xs)) (q : Q (.bl false) H) : rIsi K [.ref p, .ty "str"] H Q := ⟨_, .ty "str", .type "tuple", .type "str", false, rfl, .ty "str", .base (.tup h), kit_ty (by decide +kernel), q⟩
theorem q_tuple_list {p : Addr} {xs : List V} {K : PySem.W.Frag} {H : Hp} {Q : VK} (h : H p = some (.tup xs)) (q : Q (.bl false) H) : rIsi K [.ref p, .ty "list"] H Q := ⟨_, .ty "list", .type "tuple", .type "list", false, rfl, .ty "list", .base (.tup h), kit_ty (by decide +kernel), q⟩
theorem q_tuple_tuple {p : Addr} {xs : List V} {K : PySem.W.Frag} {H : Hp} {Q : VK} (h : H p = some (.tup xs)) (q : Q (.bl true) H) : rIsi K [.ref p, .ty "tuple"] H Q := ⟨_, .ty "tuple", .type "tuple", .type "tuple", true, rfl, .ty "tuple", .base (.tup h), kit_ty (by decide +kernel), q⟩
theorem q_tuple_dict {p : Addr} {xs : List V} {K : PySem.W.Frag} {H : Hp} {Q : VK} (h : H p = some (.tup xs)) (q : Q (.bl false) H) : rIsi K [.ref p, .ty "dict"] H Q := ⟨_, .ty "dict", .type "tuple", .type "dict", false, rfl, .ty "dict", .base (.tup h), kit_ty (by decide +kernel), q⟩
theorem q_dict_int {p : Addr} {xs : List (Key × V)} {K : PySem.W.Frag} {H : Hp} {Q : VK} (h : H p = some (.dK xs)) (q : Q (.bl false) H) : rIsi K [.ref p, .ty "int"] H Q := ⟨_, .ty "int", .type "dict", .type "int", false, rfl, .ty "int", .base (.dK h), kit_ty (by decide +kernel), q⟩
theorem q_dict_bool {p : Addr} {xs : List (Key × V)} {K : PySem.W.Frag} {H : Hp} {Q : VK} (h : H p = some (.dK xs)) (q : Q (.bl false) H) : rIsi K [.ref p, .ty "bool"] H Q := ⟨_, .ty "bool", .type "dict", .type "bool", false, rfl, .ty "bool", .base (.dK h), kit_ty (by decide +kernel), q⟩
theorem q_dict_str {p : Addr} {xs : List (Key × V)} {K : PySem.W.Frag} {H : Hp} {Q : VK} (h : H p = some (.dK xs)) (q : Q (.bl false) H) : rIsi K [.ref p, .ty "str"] H Q := ⟨_, .ty "str", .type "dict", .type "str", false, rfl, .ty "str", .base (.dK h), kit_ty (by decide +kernel), q⟩
theorem q_dict_list {p : Addr} {xs : List (Key × V)} {K : PySem.W.Frag} {H : Hp} {Q : VK} (h : H p = some (.dK xs)) (q : Q (.bl false) H) : rIsi K [.ref p, .ty "list"] H Q := ⟨_, .ty "list", .type "dict", .type "list", false, rfl, .ty "list", .base (.dK h), kit_ty (by decide +kernel), q⟩
theorem q_dict_tuple {p : Addr} {xs : List (Key × V)} {K : PySem.W.Frag} {H : Hp} {Q : VK} (h : H p = some (.dK xs)) (q : Q (.bl false) H) : rIsi K [.ref p, .ty "tuple"] H Q := ⟨_, .ty "tuple", .type "dict", .type "tuple", false, rfl, .ty "tuple", .base (.dK h), kit_ty (by decide +kernel), q⟩
theorem q_dict_dict {p : Addr} {xs : List (Key × V)} {K : PySem.W.Frag} {H : Hp} {Q : VK} (h : H p = some (.dK xs)) (q : Q (.bl true) H) : rIsi K [.ref p, .ty "dict"] H Q := ⟨_, .ty "dict", .type "dict", .type "dict", true, rfl, .ty "dict", .base (.dK h), kit_ty (by decide +kernel), q⟩

/-! ### loops -/
section
variable {K : PySem.W.Frag} {σ : L2.St} {H : Hp} {D : Ends} {g : TG} {tb : TS} {te : TE} {tr : TA} {c : TT}
/-! mono of tests -/
def MonoE (te : TE) : Prop := ∀ σ H (Q Q' : VK), (∀ v H1, Q v H1 → Q' v H1) → te σ H Q → te σ H Q'
def MonoT (t : TT) : Prop := ∀ σ H (Q Q' : Bool → Hp → Prop), (∀ b H1, Q b H1 → Q' b H1) → t σ H Q → t σ H Q'
def MonoR (r : R2) : Prop := ∀ x y H (Q Q' : VK), (∀ v H1, Q v H1 → Q' v H1) → r x y H Q → r x y H Q'
theorem m_var {n : Nat} : MonoE (tVar n) := fun _ _ _ _ f ⟨v, e, q⟩ => ⟨v, e, f _ _ q⟩
theorem m_c {v : V} : MonoE (tC v) := fun _ _ _ _ f q => f _ _ q
theorem m_op {r : R2} {ta tb : TE} (ha : MonoE ta) (hb : MonoE tb) (hr : MonoR r) : MonoE (tOp r ta tb) := fun _ _ _ _ f q => ha _ _ _ _ (fun _ _ q => hb _ _ _ _ (fun _ _ q => hr _ _ _ _ _ f q) q) q
theorem m_I0 {g : Int → Int → V} : MonoR (rI0 g) := fun _ _ _ _ _ f ⟨i, j, e1, e2, q⟩ => ⟨i, j, e1, e2, f _ _ q⟩
theorem m_eq : MonoR rEq := fun _ _ _ _ _ f ⟨h, q⟩ => ⟨h, f _ _ q⟩
theorem m_ne : MonoR rNe := fun _ _ _ _ _ f ⟨h, q⟩ => ⟨h, f _ _ q⟩
theorem m_eqP {K : PySem.W.Frag} : MonoR (rEqP K) := fun _ _ _ _ _ f h => h.elim (fun ⟨h, q⟩ => .inl ⟨h, f _ _ q⟩) fun ⟨d, e, h1, h2, h3, h4, q⟩ => .inr ⟨d, e, h1, h2, h3, h4, f _ _ q⟩
theorem m_neP {K : PySem.W.Frag} : MonoR (rNeP K) := fun _ _ _ _ _ f h => h.elim (fun ⟨h, q⟩ => .inl ⟨h, f _ _ q⟩) fun ⟨d, e, h1, h2, h3, h4, q⟩ => .inr ⟨d, e, h1, h2, h3, h4, f _ _ q⟩
theorem m_gt : MonoR rGtI := m_I0
theorem m_lt : MonoR rLtI := m_I0
theorem m_ge : MonoR rGeI := m_I0
theorem m_le : MonoR rLeI := m_I0
theorem m_test {te : TE} (h : MonoE te) : MonoT (tTest te) := fun _ _ _ _ f q => h _ _ _ _ (fun _ _ ⟨k, e, q⟩ => ⟨k, e, f _ _ q⟩) q
theorem m_or {t u : TT} (h : MonoT t) (h2 : MonoT u) : MonoT (tOr t u) := fun σ H Q Q' f q => h _ _ _ _ (fun b H1 q => by
  cases b with
  | true =>
    rw [if_pos rfl] at q ⊢
    exact f _ _ q
  | false =>
    rw [if_neg Bool.false_ne_true] at q ⊢
    exact h2 _ _ _ _ f q) q
theorem m_and {t u : TT} (h : MonoT t) (h2 : MonoT u) : MonoT (tAnd t u) := fun σ H Q Q' f q => h _ _ _ _ (fun b H1 q => by
  cases b with
  | true =>
    rw [if_pos rfl] at q ⊢
    exact h2 _ _ _ _ f q
  | false =>
    rw [if_neg Bool.false_ne_true] at q ⊢
    exact f _ _ q) q
/-- while: an invariant, a measure; the test's reading must not look at what is wanted -/
theorem r_while (Pv : Nat → L2.St → Hp → Prop) (m : Nat) (mono : MonoT c) (h0 : Pv m σ H)
    (hs : ∀ m σ H, Pv m σ H → c σ H fun b H1 => if b = true then tb { D with nx := fun σ' H' => ∃ m', m' < m ∧ Pv m' σ' H', ct := fun σ' H' => ∃ m', m' < m ∧ Pv m' σ' H', bk := D.nx } σ H1 else D.nx σ H1) : tWhile c tb D σ H := by
  refine ⟨fun m σ H => Pv m σ H, ⟨m, h0⟩, fun m σ H p => ?_⟩
  refine mono σ H _ _ (fun b H1 q => ?_) (hs m σ H p)
  cases b with
  | true => exact ⟨_, fun σ' H' h => h, q⟩
  | false => exact q
end

/-! ### what is walked -/
section
variable {K : PySem.W.Frag} {σ : L2.St} {H : Hp} {te : TE} {tr : TA} {R : It → Hp → Prop}
theorem s_L {p : Addr} {xs : List V} (h : SqL K H p xs) (q : R (Itl K p) H) : ∃ a, V.ref p = .ref a ∧ (∃ xs, SqL K H a xs) ∧ R (Itl K a) H := ⟨p, rfl, ⟨xs, h⟩, q⟩
theorem s_T {p : Addr} {xs : List V} (h : SqT K H p xs) (q : R (Itt K p) H) : ∃ a, V.ref p = .ref a ∧ (∃ xs, SqT K H a xs) ∧ R (Itt K a) H := ⟨p, rfl, ⟨xs, h⟩, q⟩
theorem s_S {z : Str} (q : R (Its z) H) : ∃ x, V.str z = .str x ∧ R (Its x) H := ⟨z, rfl, q⟩
theorem s_R1 {n : Int} (q : R (Itr 0 n.toNat) H) (h : -(2 ^ 62) ≤ n ∧ n < 2 ^ 62) : ∃ j : Int, [V.int n] = [.int j] ∧ -(2 ^ 62) ≤ j ∧ j < 2 ^ 62 ∧ R (Itr 0 j.toNat) H := ⟨n, rfl, h.1, h.2, q⟩
theorem s_R2 {m n : Int} (q : R (Itr m (n - m).toNat) H) (h : -(2 ^ 62) ≤ m ∧ m < 2 ^ 62 ∧ -(2 ^ 62) ≤ n ∧ n < 2 ^ 62) : ∃ i j : Int, [V.int m, .int n] = [.int i, .int j] ∧ (-(2 ^ 62) ≤ i ∧ i < 2 ^ 62 ∧ -(2 ^ 62) ≤ j ∧ j < 2 ^ 62) ∧ R (Itr i (j - i).toNat) H := ⟨m, n, rfl, h, q⟩
theorem s_E {p : Addr} {xs : List V} (h : SqL K H p xs) (q : R (Ite K p) H) : ∃ a xs, [V.ref p] = [.ref a] ∧ SqL K H a xs ∧ R (Ite K a) H := ⟨p, xs, rfl, h, q⟩
theorem s_Z {p r : Addr} {xs ys : List V} (h : SqL K H p xs) (h2 : SqL K H r ys) (q : R (Itz K p r) H) : ∃ a b xs ys, [V.ref p, .ref r] = [.ref a, .ref b] ∧ SqL K H a xs ∧ SqL K H b ys ∧ R (Itz K a b) H := ⟨p, r, xs, ys, rfl, h, h2, q⟩
theorem i_L (q : te σ H fun x H1 => ∃ a, x = .ref a ∧ (∃ xs, SqL K H1 a xs) ∧ R (Itl K a) H1) : iList K te σ H R := q
theorem i_T (q : te σ H fun x H1 => ∃ a, x = .ref a ∧ (∃ xs, SqT K H1 a xs) ∧ R (Itt K a) H1) : iTup K te σ H R := q
theorem i_S (q : te σ H fun v H1 => ∃ x, v = .str x ∧ R (Its x) H1) : iStr te σ H R := q
theorem i_R1 (q : tr σ H fun vs H1 => ∃ j : Int, vs = [.int j] ∧ -(2 ^ 62) ≤ j ∧ j < 2 ^ 62 ∧ R (Itr 0 j.toNat) H1) : iRng1 tr σ H R := q
theorem i_R2 (q : tr σ H fun vs H1 => ∃ i j : Int, vs = [.int i, .int j] ∧ (-(2 ^ 62) ≤ i ∧ i < 2 ^ 62 ∧ -(2 ^ 62) ≤ j ∧ j < 2 ^ 62) ∧ R (Itr i (j - i).toNat) H1) : iRng2 tr σ H R := q
theorem i_E (q : tr σ H fun vs H1 => ∃ a xs, vs = [.ref a] ∧ SqL K H1 a xs ∧ R (Ite K a) H1) : iEnum K tr σ H R := q
theorem i_Z (q : tr σ H fun vs H1 => ∃ a b xs ys, vs = [.ref a, .ref b] ∧ SqL K H1 a xs ∧ SqL K H1 b ys ∧ R (Itz K a b) H1) : iZip K tr σ H R := q
end
section
variable {σ : L2.St} {H : Hp} {Q : VK} {g : TG} {te : TE} {tt : TT} {tb : TS} {wi : TI} {vs : List Nat} {D : Ends} {J : It} {n : Nat} {G : Hp → Prop} {Y : Nat → Hp → V → Hp → Prop}
theorem walk_r0 {n : Nat} : Walk (Itr 0 n) n (fun _ => True) (fun i H x H' => H' = H ∧ x = .int (i : Nat)) := walk_range.mono (fun _ h => h) fun i H x H' _ _ y => ⟨y.1, y.2.trans (congrArg V.int (Int.zero_add _))⟩
/-- what a for asks of the iterator -/
def ForQ (σ : L2.St) (g : TG) (tb : TS) (D : Ends) : It → Hp → Prop := fun J H1 => ∃ W : Nat → Nat → L2.St → Hp → Prop, (∃ m, W 0 m σ H1) ∧ ∀ i m σ H, W i m σ H →
      (J.stop i H ∧ D.nx σ H) ∨ (J.go i H ∧ ∃ N : L2.St → Hp → Prop, (∀ σ' H', N σ' H' → ∃ m', m' < m ∧ W (i + 1) m' σ' H') ∧ ∀ x H', J.yld i H x H' → g x σ H' fun σ2 H2 => tb { D with nx := N, ct := N, bk := D.nx } σ2 H2)
theorem r_for (q : wi σ H (ForQ σ g tb D)) : tFor wi g tb D σ H := q
theorem forW (w : Walk J n G Y) (Pv : Nat → L2.St → Hp → Prop) (h0 : Pv 0 σ H) (hG : ∀ i σ H, i ≤ n → Pv i σ H → G H)
    (hs : ∀ i x σ H H', i < n → Pv i σ H → Y i H x H' → g x σ H' fun σ2 H2 => tb { D with nx := Pv (i + 1), ct := Pv (i + 1), bk := D.nx } σ2 H2) (hd : ∀ σ H, Pv n σ H → D.nx σ H) : ForQ σ g tb D J H := for_it w Pv h0 hG hs hd
/-- what a comprehension asks -/
def LcQ (σ : L2.St) (g : TG) (tt : TT) (te : TE) (vs : List Nat) (Q : VK) : It → Hp → Prop := fun J H1 => ∀ D, H1 D = none → ∃ W : Nat → Nat → Hp → Prop, (∃ m, W 0 m (upd H1 D (.lst []))) ∧ ∀ i m H, W i m H →
  (J.stop i H ∧ Q (.ref D) H) ∨ (J.go i H ∧ ∃ Nx : Hp → Prop, (∀ H', Nx H' → ∃ m', m' < m ∧ W (i + 1) m' H') ∧ ∀ x H', J.yld i H x H' → g x (wipe σ vs) H' fun σ2 H2 => wipe σ2 vs = wipe σ vs ∧ tt σ2 H2 fun b H3 =>
    if b = true then te σ2 H3 fun y H4 => ∃ acc, H4 D = some (.lst acc) ∧ acc.length < sizeLine ∧ Nx (upd H4 D (.lst (acc ++ [y]))) else Nx H3)
theorem r_lc (q : wi σ H (LcQ σ g tt te vs Q)) : tLc wi g tt te vs σ H Q := q
/-- between the turns: the new list at Dl holds acc, R of it; the heap ahead stands -/
def LcI (H : Hp) (Dl : Addr) (R : Nat → List V → Hp → Prop) (i : Nat) (H' : Hp) : Prop := ∃ acc : List V, acc.length ≤ i ∧ Same H H' ∧ H' Dl = some (.lst acc) ∧ R i acc H'
/-- .. behind the element -/
def LcP (H : Hp) (Dl : Addr) (R : Nat → List V → Hp → Prop) (i : Nat) (y : V) (H4 : Hp) : Prop := ∃ acc, H4 Dl = some (.lst acc) ∧ acc.length < sizeLine ∧ LcI H Dl R i (upd H4 Dl (.lst (acc ++ [y])))
theorem lcW (w : Walk J n G Y) (R : Nat → List V → Hp → Prop) (hw : wipe σ vs = σ) (hG : ∀ H', Same H H' → G H') (h0 : ∀ H', Same H H' → R 0 [] H')
    (hs : ∀ i x acc Dl H' H'', i < n → H Dl = none → Same H H' → H' Dl = some (.lst acc) → acc.length ≤ i → R i acc H' → Y i H' x H'' → g x σ H'' fun σ2 H2 => wipe σ2 vs = σ ∧ tt σ2 H2 fun b H3 =>
      if b = true then te σ2 H3 (LcP H Dl R (i + 1)) else LcI H Dl R (i + 1) H3)
    (hd : ∀ acc Dl H', H Dl = none → Same H H' → H' Dl = some (.lst acc) → R n acc H' → Q (.ref Dl) H') : LcQ σ g tt te vs Q J H := by
  intro Dl hD
  rw [hw]
  refine Eq.mp (by rw [hw]) (lc_it (σ := σ) (vs := vs) (g := g) (tt := tt) (te := te) (H1 := H) (D := Dl) (Qd := fun H' => Q (.ref Dl) H') w (LcI H Dl R) ⟨[], Nat.le_refl _, Same.new hD, upd_same, h0 _ (Same.new hD)⟩ (fun i H' _ ⟨_, _, e, _⟩ => hG H' e) (fun i x H' H'' hi ⟨acc, hl, e, ed, r⟩ y => ?_) fun H' ⟨acc, _, e, ed, r⟩ => hd acc Dl H' hD e ed r)
  rw [hw]
  exact hs i x acc Dl H' H'' hi hD e ed hl r y
theorem lc_put {Dl : Addr} {R : Nat → List V → Hp → Prop} {i : Nat} {y : V} {acc : List V} {H4 : Hp} (hi : i < 16777216) (hD : H Dl = none) (e : Same H H4) (h : H4 Dl = some (.lst acc)) (hl : acc.length ≤ i)
    (r : ∀ H5, But Dl H4 H5 → Same H H5 → R (i + 1) (acc ++ [y]) H5) : LcP H Dl R (i + 1) y H4 :=
  ⟨acc, h, szlt (by omega), acc ++ [y], by rw [List.length_append]; exact Nat.succ_le_succ hl, Same.but But.upd hD e, upd_same, r _ But.upd (Same.but But.upd hD e)⟩
theorem lc_skip {Dl : Addr} {R : Nat → List V → Hp → Prop} {i : Nat} {acc : List V} {H4 : Hp} (e : Same H H4) (h : H4 Dl = some (.lst acc)) (hl : acc.length ≤ i) (r : R (i + 1) acc H4) : LcI H Dl R (i + 1) H4 := ⟨acc, by omega, e, h, r⟩
theorem r_yes {QB : Bool → Hp → Prop} (q : QB true H) : tYes σ H QB := q
theorem r_wipe {σ' : L2.St} {B : Prop} (h : wipe σ' vs = σ) (q : B) : wipe σ' vs = σ ∧ B := ⟨h, q⟩
end
end Z

/-! Ze: own exception classes: made, raised, caught, kept, asked. -/
namespace Z
open PySem PySem.Spec PyProof.Rows L2

/-! ### a field of an f-string: None too -/
def rFmtN : V → Hp → VK → Prop := fun x H1 Q => (∃ y : Str, x = .str y ∧ y.length ≤ sizeLine ∧ Q (.str y) H1) ∨ (∃ i : Int, x = .int i ∧ i.natAbs.log2 < 1920 ∧ Q (.str (toString i)) H1) ∨ (x = .non ∧ Q (.str "None") H1)
def tFmtN (te : TE) : TE := fun σ H Q => te σ H fun x H1 => rFmtN x H1 Q
theorem pe_fmtN {X : Cx} {e : Expr} {te : TE} {pos : Pos} (he : PE X e te) : PE X (.FormattedValue e (-1) none pos) (tFmtN te) := by
  refine ⟨fun pins s σ H Q I h => ?_⟩
  refine wpAny_FormattedValue_plain (thn (he.run pins s σ H _ I h) fun v s1 hv => ?_)
  obtain ⟨x, H1, I1, r1, q⟩ := hv
  rcases q with ⟨y, rfl, hz, q⟩ | ⟨i, rfl, hz, q⟩ | ⟨rfl, q⟩
  · obtain ⟨t, rfl⟩ := r1
    exact wpAny_formatField_str ⟨.str y, H1, I1, ⟨t, rfl⟩, q⟩ ⟨.str y, H1, I1.tok _, ⟨_, rfl⟩, q⟩ hz
  · obtain ⟨t, rfl⟩ := r1
    exact wpAny_formatField_int hz ⟨.str (toString i), H1, I1.tok _, ⟨_, rfl⟩, q⟩
  · obtain rfl : v = Value.none := r1
    exact wpAny_formatField_none ⟨.str "None", H1, I1.tok _, ⟨_, rfl⟩, q⟩

/-! ### str(n) -/
theorem r_strN {n : Nat} {H : Hp} {Q : VK} (q : Q (.str (SX.S (TL.numL n))) H) (h : n < 10 ^ 60) : cStr [.int (n : Int)] H Q := by
  refine Z.r_strI ?_ ?_
  · rw [SX.num_S]
    exact q
  · by_cases h0 : n = 0
    · rw [h0]
      decide
    · have h2 : (10 : Nat) ^ 60 < 2 ^ 1920 := by decide +kernel
      exact (Nat.log2_lt (by omega)).mpr (by rw [Int.natAbs_natCast]; exact Nat.lt_trans h h2)
/-! ### a text so many times -/
def rMulS : R2 := fun x y H Q => ∃ (z : Str) (n : Int), x = .str z ∧ y = .int n ∧ PySem.MulOk z n ∧ Q (.str (Txt.mul z n)) H
theorem op_mulS {X : Cx} : OpR X (binaryOp .Mult) rMulS := by
  intro pins s σ H x y v u Q I rx ry h
  obtain ⟨z, n, rfl, rfl, hc, q⟩ := h
  obtain ⟨t, rfl⟩ := (show ∃ t, v = Value.str z t from rx)
  obtain ⟨t2, rfl⟩ := (show ∃ t, u = Value.int n t from ry)
  exact PySem.SB.mul hc fun t' k => ⟨.str (Txt.mul z n), H, I.tok k, ⟨t', rfl⟩, q⟩
theorem r_mulS {z : Str} {n : Int} {H : Hp} {Q : VK} (q : Q (.str (Txt.mul z n)) H) (h : PySem.MulOk z n) : rMulS (.str z) (.int n) H Q := ⟨z, n, rfl, rfl, h, q⟩
/-! ### D.__init__(self, ..), D an own class over ValueError without own __init__ -/
structure DearC (K : PySem.W.Frag) (D : Addr) : Prop where
  rd : PySem.W.readsIn K D (.type "type") = true
  ga : PySem.W.specialIn K (.ref D) "__getattribute__" = some (some (.builtin "type.__getattribute__"))
  at_ : PySem.W.findCls K (.ref D) (.type "type") "__init__" = some (.val (.builtin "ValueError.__init__"))
theorem pe_dearI {X : Cx} {x : Str} {D : Addr} {e : Expr} {es : List Expr} {ta : TA} {p1 p2 pos : Pos} {pl : Sem Bool} (hg : Gl X x) (hm : X.mg x = some (.ref D)) (C : DearC X.K D) (ha : PA X (e :: es) ta)
    (hdb : (x == ("__debug__" : Str)) = false := by decide)
    (hc : eval (.Call (.Attribute (.Name x p1) "__init__" p2) (e :: es) [] pos) X.env = (do
      let ov ← eval (.Name x p1) X.env
      standAt p2.atName
      let (f, first) ← holding [ov] (getMethod ov "__init__" pl)
      callWith pos f first (backTo pos (starEach (e :: es) X.env)) (backToKw pos (keywordEach [] X.env))) := by rfl)
    (he : starEach (e :: es) X.env = (false, eval e X.env) :: starEach es X.env := by rfl) (hpl : (backTo pos (starEach es X.env)).any (·.1) = false := by rfl) :
    PE X (.Call (.Attribute (.Name x p1) "__init__" p2) (e :: es) [] pos) (tVeI X.K ta) := by
  refine ⟨fun pins s σ H Q I h => ?_⟩
  refine PySem.W.methodCall_KW (ld_glob I hg hm ?_ hdb) hc
  refine PySem.W.method_cls I.kIn C.ga (PySem.W.cls_value I.kIn C.rd C.at_ rfl ?_)
  show wpAny _ _ (callWith pos (Value.builtin "ValueError.__init__") [] (backTo pos (starEach (e :: es) X.env)) []) _ _ _
  refine PyProof.Rows.callWith_method1 (thn (ha.run pos pins _ σ H _ (I.tok _) h) fun us s1 ⟨vs, H1, I1, r1, a, C, ws, ev, hl, T, ea, q⟩ => ?_) he hpl
  subst ev
  cases r1 with
  | @cons _ u0 _ ur ra rw' =>
    obtain rfl : u0 = Value.ref a := ra
    have hlen : ur.length ≤ sizeLine := by
      rw [← Paired.length rw', sizeLine_eq]
      omega
    exact oinit_ok T I1 ea hlen fun s' J => ⟨.non, H1, J, rfl, q⟩

/-! ### an exception that is kept behind the suite -/
/-- at a: an exception of the class cls, its dict d -/
def ExH (cls : Value) (d : Option Addr) (a : Addr) : HO := .ext fun h => ∃ (oe : Obj) (vs : Array Value), h.get? a = some oe ∧ Zc cls d oe ∧ oe.data = .fields vs
theorem exH_ok {P : Program} {w : World} {H : Hp} {h : Heap} {a : Addr} {cls : Value} {d : Option Addr} {oe : Obj} {vs : Array Value} (e : h.get? a = some oe) (z : Zc cls d oe) (k : oe.data = .fields vs) : ObjOk P w H h a (ExH cls d a) :=
  ⟨⟨oe, vs, e, z, k⟩, ⟨oe, e⟩, fun _ _ ⟨o, v, q, r⟩ k => ⟨o, v, k o q, r⟩⟩
section
variable {X : Cx} {pins : List (Addr × Obj)} {σ : L2.St} {H : Hp} {s : Shared}
theorem trackX {a : Addr} {o : HO} (I : Inv X pins σ H s) (n0 : X.s_0.heap.get? a = none) (hn : H a = none) (nL : a ≠ X.env.locals) (nC : ∀ x c, X.env.cells.lookup x = some c → c ≠ a) (nP : ∀ p ∈ X.pn ++ pins, p.1 ≠ a) (new : ObjOk X.prog X.w (upd H a o) s.heap a o) : Inv X pins σ (upd H a o) s := by
  have ne0 : ∀ b u, X.s_0.heap.get? b = some u → b ≠ a := fun b u e z => by
    rw [z, n0] at e
    cases e
  refine ⟨I.ok, I.os, I.bare, ⟨I.base.keep, I.base.slot, fun b u e n hx => ?_, I.base.there, fun b xs e => ?_, fun b u v e => ?_, fun b ps e => ?_⟩, I.loc, I.cell, ?_, fun x c e => ?_, fun p hp => ?_, ?_, I.len⟩
  · rw [upd_ne (ne0 b u e)]
    exact I.base.free b u e n hx
  · have q := I.base.tups b xs e
    rw [upd_ne (ne_of_none q hn)]
    exact q
  · have q := I.base.frzs b u v e
    rw [upd_ne (ne_of_none q hn)]
    exact q
  · obtain ⟨m, q⟩ := I.base.tbls b ps e
    exact ⟨m, by rw [upd_ne (ne_of_none q hn)]; exact q⟩
  · rw [upd_ne (Ne.symm nL)]
    exact I.free
  · rw [upd_ne (nC x c e)]
    exact I.freeC x c e
  · obtain ⟨e, n, nl, nf, d⟩ := I.pin p hp
    exact ⟨e, by rw [upd_ne (nP p hp)]; exact n, nl, nf, d⟩
  · exact L2.HOk.laidN I.hok (fun _ _ q => q) hn new
end
/-- what the clause 'except x as n' wishes of an exception of the body, kept -/
def wKeep (K : PySem.W.Frag) (c : Value) (i : Nat) (ts : Addr → Value → Option Addr → TS) (Wout : WX) (D : Ends) : WX := fun cls d σ H =>
  ∃ b, PySem.W.exmOne K cls c = some b ∧ (b = true → ∀ a, H a = none → ts a cls d { nx := fun σ' H' => D.nx (σ'.set i none) (upd H' a (ExH cls d a)), rt := fun v H' => D.rt v (upd H' a (ExH cls d a)), bk := fun σ' H' => D.bk (σ'.set i none) (upd H' a (ExH cls d a)), ct := fun σ' H' => D.ct (σ'.set i none) (upd H' a (ExH cls d a)) } (σ.set i (some (.ref a))) H) ∧
    (b = false → Wout cls d σ H)

section
variable {X : Cx} {x n : Str} {c : Value} {i : Nat} {body suite : List Stmt} {b₀ : Stmt} {np pos pos' : Pos} {tb : WX → TS} {ts : Addr → Value → Option Addr → TS} {Wout : WX}
theorem ps_keep (hs : X.stack = X.env :: X.outer) (hf : X.env.frame = some X.env.locals) (hex : X.ex = []) (hN : X.N.Nodup) (hi : X.N[i]? = some n) (hln : X.env.kindOf n = some .local) (hc : Names X x c) (tk : Takes X Wout)
    (hb : ∀ (W : WX) (pn : List (Addr × Obj)) (xe : Value → Shared → Prop), Takes (X.tr pn xe) W → PassesOwn (model X.prog X.w) X.A X.env xe → PSs (X.tr pn xe) body (tb W))
    (hsu : ∀ (a : Addr) (oe : Obj) (cls : Value) (d : Option Addr) (pn : List (Addr × Obj)), Zc cls d oe → (∃ vs, oe.data = .fields vs) → PSs (X.suite a ((a, oe) :: pn)) (b₀ :: suite) (ts a cls d)) :
    PS X (.Try body [.ExceptHandler (some (.Name x np)) (some n) (b₀ :: suite) pos'] [] [] pos) (fun D σ H => tb (wKeep X.K c i ts Wout D) D σ H) := by
  refine ⟨fun pins s σ H D I h => ?_⟩
  have ok := I.ok
  have hfr : X.A.frames = some (X.env :: X.outer) := by rw [ok.frames, hs]
  have hloc : Loc X.env.scope n := .inl hln
  refine wpAny_Try_except ?_
  refine wpAny_mono ((hb (wKeep X.K c i ts Wout D) (X.pn ++ pins) (fun e s₁ => wpAny (model X.prog X.w) X.A (noteFrame e X.env) (fun _ s₂ => wpAny (model X.prog X.w) X.A (setFlight e none) (fun _ s₃ =>
    wpAny (model X.prog X.w) X.A (handleBy e X.env [.ExceptHandler (some (.Name x np)) (some n) (b₀ :: suite) pos']) (SP X pins D) X.xe s₃) X.xe s₂) X.xe s₁) (fun u s' xx => ?_) PassesOwn.looking).run [] s σ H D (I.toTry _) h) (fun f s1 hsp => ?_) (fun e s1 he => he)
  · -- the catch
    obtain ⟨a, B, sI, pins', σ', H', cls, d, rfl, J', nb, up, sky, na, os, ag, b, hb1, hyes, hno⟩ := xx
    have J : Inv X pins σ' H' sI := J'.ofTry ok
    have sky' : Sky B (X.env :: X.outer) a (Zc cls d) X.env.locals s'.heap := by rw [← hs]; exact sky
    show wpAny (model X.prog X.w) X.A (noteFrame (.ref a) X.env) _ _ _
    refine Sky.land Zc.steady hfr hf sky' fun h3 fl3 up3 => ?_
    have J3 : Inv X pins σ' H' { s' with heap := h3 } := J.landed nb fl3.1 (up.trans up3) os ag
    obtain ⟨oe3, vs3, he3, hz3, hd3⟩ := fl3.there
    have notFr : ∀ {h : Heap} {o : Obj} {vs : Array Value}, h.FunFrames B (X.env :: X.outer) → h.get? a = some o → o.data = .fields vs → a ∉ frs (X.env :: X.outer) := fun {h o vs} ff e dd hm => by
      obtain ⟨_, o', e', hnf⟩ := ff.mem hm
      rw [e] at e'; cases e'
      exact hnf _ dd
    have nfr := notFr fl3.2.2.1 he3 hd3
    have nL : a ≠ X.env.locals := fun z => nfr (List.mem_filterMap.mpr ⟨X.env, List.mem_cons_self, by rw [hf, z]⟩)
    have nF : a ∉ X.fs := fun hm => by
      obtain ⟨e, he, q⟩ := List.mem_filterMap.mp hm
      exact nfr (List.mem_filterMap.mpr ⟨e, List.mem_cons_of_mem _ he, q⟩)
    -- new
    have nB : B.get? a = none := fl3.2.1
    have nI : sI.heap.get? a = none := by
      cases e : sI.heap.get? a with
      | none => rfl
      | some o =>
        have q := nb a o e (by rw [hs]; exact nfr)
        rw [nB] at q
        cases q
    have n0 : X.s_0.heap.get? a = none := by
      cases e : X.s_0.heap.get? a with
      | none => rfl
      | some o =>
        obtain ⟨o', q⟩ := J.base.there a o e (by rw [hex]; exact fun z => nomatch z)
        rw [nI] at q
        cases q
    have nC : ∀ x c, X.env.cells.lookup x = some c → c ≠ a := fun x c e z => by
      obtain ⟨v, o, ho, _⟩ := J.cell x c e
      rw [z, nI] at ho
      cases ho
    have nP : ∀ p ∈ X.pn ++ pins, p.1 ≠ a := fun p hp z => by
      have q := (J.pin p hp).1
      rw [z, nI] at q
      cases q
    have S3 := J3.suite he3 hd3 na nL nF
    refine wpAny_handleBy_cons (codeAny_handlers_test ?_) (by intro q; cases q)
    have LT : PySem.W.Looks (model X.prog X.w) h3 (typeOf (.ref a)) cls := fun A Q E s k q => wpAny_typeOf_ref (k _ _ he3) (by rw [hz3.1]; exact q)
    have LM := PySem.W.exm_one (M := model X.prog X.w) (J3.kIn) LT hb1
    have test : ∀ {Q : Value → Shared → Prop} {E : Value → Shared → Prop}, Q c { s' with heap := h3 } → wpAny (model X.prog X.w) (X.A.mark (some (.ref a))) (eval (.Name x np) X.env) Q E { s' with heap := h3 } := fun {Q E} q => by
      obtain ⟨hg, hdbg, hm | ⟨hm, hv, hnn⟩⟩ := hc
      · exact ld_glob (X := X.suite a ((a, oe3) :: (X.pn ++ pins))) S3 hg hm q hdbg
      · exact ld_blt (X := X.suite a ((a, oe3) :: (X.pn ++ pins))) S3 hg hm hv q hnn hdbg
    refine test (LM.here ?_)
    cases b with
    | true =>
      refine codeAny_handlers_suite_as ?_
      refine HandSPX.lands_againZ fl3 fun h4 fl4 up4 => ?_
      have J4 : Inv X pins σ' H' { s' with heap := h4 } := J.landed nb fl4.1 ((up.trans up3).trans up4) os ag
      obtain ⟨oe4, vs4, he4, hz4, hd4⟩ := fl4.there
      have S4 := J4.suite he4 hd4 na nL nF
      refine store_ok (X := X.suite a ((a, oe4) :: (X.pn ++ pins))) (v := .ref a) S4 hN hi hloc rfl (fun s5 S5 => ?_) (.inr hln)
      refine wpAny_mono ((hsu a oe4 cls d (X.pn ++ pins) hz4 ⟨_, hd4⟩).run [] s5 _ H' _ S5 (hyes rfl a na)) (fun f s6 hsp => ?_) (fun _ _ z => False.elim z)
      have end_ : ∀ {σ6 : L2.St} {H6 : Hp} {Q : Shared → Prop}, Inv (X.suite a ((a, oe4) :: (X.pn ++ pins))) [] σ6 H6 s6 → (∀ s7, Inv X pins (σ6.set i none) (upd H6 a (ExH cls d a)) s7 → Q s7) →
          wpAny (model X.prog X.w) X.A (do bindName X.env n .none; unbindBehindTheSuite X.env n pos') (fun _ s7 => Q s7) X.xe s6 := fun {σ6 H6 Q} S6 hq => gone_ok (X := X.suite a ((a, oe4) :: (X.pn ++ pins))) S6 hN hi hln fun s7 S7 => by
        obtain ⟨e7, n7, _⟩ := S7.pin (a, oe4) (List.mem_append_left _ List.mem_cons_self)
        exact hq s7 (trackX (S7.unsuite ok) n0 n7 nL nC nP (exH_ok e7 hz4 hd4))
      cases f with
      | next =>
        obtain ⟨σ6, H6, S6, q6⟩ := hsp
        exact end_ S6 fun s7 J7 => ⟨_, _, J7, q6⟩
      | brk =>
        obtain ⟨σ6, H6, S6, q6⟩ := hsp
        exact end_ S6 fun s7 J7 => ⟨_, _, J7, q6⟩
      | cont =>
        obtain ⟨σ6, H6, S6, q6⟩ := hsp
        exact end_ S6 fun s7 J7 => ⟨_, _, J7, q6⟩
      | ret u =>
        obtain ⟨v6, σ6, H6, S6, r6, q6⟩ := hsp
        exact end_ S6 fun s7 J7 => ⟨_, _, _, J7, r6, q6⟩
    | false =>
      show wpAny _ X.A (handleBy (.ref a) X.env []) _ _ _
      refine wpAny_handleBy_nil ?_
      obtain ⟨k1, k2, k3, oe, vs, T, oT, ts', he, hz, hd, h1, hr⟩ := id fl3
      unfold PySem.passOn
      refine wpAny_bind (wpAny_field he hd h1 ?_)
      rw [if_neg (show ¬ ((Value.ref T == Value.none) = true) from by simp)]
      have fin : wpAny (model X.prog X.w) X.A (setFlight (.ref a) X.env.frame) (fun _ s4 => wpAny (model X.prog X.w) X.A (throw (.ref a) : Sem Flow) (SP X pins D) X.xe s4) X.xe { s' with heap := h3 } := by
        rw [hf]
        refine HandSPX.setFlight_upZ fl3 fun h4 hh4 up4 => wpAny_throw (tk _ _ ?_)
        exact ⟨a, B, sI, pins, σ', H', cls, d, rfl, J, nb, (up.trans up3).trans up4, .inr (.inr (by rw [hs]; exact hh4)), na, os, ag, hno rfl⟩
      first
        | exact wpAny_bind (wpAny_pure (wpAny_bind fin))
        | exact wpAny_bind fin
  · cases f with
    | next =>
      obtain ⟨σ', H', J', q⟩ := hsp
      exact wpAny_execs_nil ⟨σ', H', J'.ofTry ok, q⟩
    | brk =>
      obtain ⟨σ', H', J', q⟩ := hsp
      exact ⟨σ', H', J'.ofTry ok, q⟩
    | cont =>
      obtain ⟨σ', H', J', q⟩ := hsp
      exact ⟨σ', H', J'.ofTry ok, q⟩
    | ret u =>
      obtain ⟨v, σ', H', J', r, q⟩ := hsp
      exact ⟨v, σ', H', J'.ofTry ok, r, q⟩
end

theorem r_caught {K : PySem.W.Frag} {c : Value} {i : Nat} {ts : Addr → Value → Option Addr → TS} {Wout : WX} {D : Ends} {cls : Value} {d : Option Addr} {σ : L2.St} {H : Hp} (e : PySem.W.exmOne K cls c = some true)
    (h : ∀ a, H a = none → ts a cls d { nx := fun σ' H' => D.nx (σ'.set i none) (upd H' a (ExH cls d a)), rt := fun v H' => D.rt v (upd H' a (ExH cls d a)), bk := fun σ' H' => D.bk (σ'.set i none) (upd H' a (ExH cls d a)), ct := fun σ' H' => D.ct (σ'.set i none) (upd H' a (ExH cls d a)) } (σ.set i (some (.ref a))) H) :
    wKeep K c i ts Wout D cls d σ H := ⟨true, e, fun _ => h, fun z => nomatch z⟩
/-! ### isinstance and fields of such a one -/
section
open PySem.W
variable {prog : Program} {w : World} {A : Around} {E : Value → Shared → Prop} {s : Shared} {K : Frag} {x D : Addr} {ox : Obj} {od : Option Obj}
theorem findObj_dataA {C : Addr} {name : Str} {a g : Value} (hc : (clsIn K C).isSome = true) (ha : findIn K (.ref C) name = some (some a)) (hg : specialIn K a "__get__" = some (some g)) (ht : takesIn K a = some true) : findObj K C od name = some (.bind g a) := by
  obtain ⟨cd, hc⟩ := Option.isSome_iff_exists.mp hc
  unfold findObj
  rw [hc, Option.bind_some, ha, Option.bind_some]
  simp [hg, ht]
theorem kin_classA {Q : Option Value → Shared → Prop} (C : ExcC K D)
    (X : K.In s.heap) (I : InstAt s.heap x ox D od) (h : Q (some (.ref D)) { s with toks := s.toks + 1 }) : wpAny (model prog w) A (getAttr? (.ref x) "__class__") Q E s := by
  have hf : findObj K D od "__class__" = some (.bind (.builtin "getset_descriptor.__get__") (.builtin "object.__class__")) := findObj_dataA (by obtain ⟨cd, hc, _⟩ := any_some C.hd; rw [hc]; rfl) C.ha C.hn C.ht
  obtain ⟨hp, g, d, t, os⟩ := s
  have L0 := I.type (M := model prog w)
  have L1 := looks_findIn (M := model prog w) X C.hg
  have L2 := looks_findIn (M := model prog w) X C.hk
  have L3 := looks_find (M := model prog w) X I hf
  have sub : Looks (model prog w) hp (isInstance (.ref x) (.type "BaseException")) true := L0.andThen (looks_subIn X C.hs)
  have hx0 : (false && onTheHeap (Value.builtin "BaseException.__getattribute__")) = false := rfl
  have hx2 : (Value.builtin "BaseException.__getattribute__" == Value.builtin "object.__getattribute__") = false := by decide +kernel
  have hx1 : (onTheHeap (Value.ref D) && Value.builtin "BaseException.__getattribute__" == Value.builtin "object.__getattribute__") = false := by rw [hx2]; rfl
  unfold getAttr? getAttrBy? getAttrBy
  refine wpAny_bind (wpAny_mkText (wpAny_bind (wpAny_attempt (wpAny_holding (wpAny_bind (L0.at (wpAny_bind (L1.at ?_))))))))
  show wpAny _ _ (if (onTheHeap (Value.ref D) && Value.builtin "BaseException.__getattribute__" == Value.builtin "object.__getattribute__") = true then _ else _) _ _ _
  rw [hx1, if_neg Bool.false_ne_true]
  unfold getAttrByItsOwn hookBefore
  refine wpAny_bind ?_
  rw [if_pos (show onTheHeap (Value.ref D) = true from rfl)]
  refine L2.at ?_
  refine wpAny_bind (wpAny_attempt (wpAny_holding ?_))
  unfold callGetattribute
  rw [hx0, if_neg Bool.false_ne_true]
  unfold boundAndCalled
  rw [PySem.F.excAttr_ValueError.ga.bind (.ref x)]
  refine wpAny_bind (wpAny_pure ?_)
  show wpAny _ _ (call (.builtin "BaseException.__getattribute__") [.ref x, .str "__class__" t]) _ _ _
  refine wpAny_call (codeAny_call_builtin PySem.F.excAttr_ValueError.ga.plain PySem.F.entry_bexc_ga ?_)
  refine @check_slot (model prog w) _ _ ⟨hp, g, d, t + 1, os⟩ "BaseException.__getattribute__" "BaseException" "__getattribute__" (.ref x) [.str "__class__" t] [] _ (by decide +kernel) (by decide +kernel) sub (PySem.F.args_bexc_ga (.ref x) (.str "__class__" t)) ?_
  unfold Builtin.«object.__getattribute__»
  refine wpAny_bind (wpAny_of_eq (a := ((Value.ref x : Value), [Value.str "__class__" t])) (by first | rfl | (simp only [slotArgs]; rfl)) ?_)
  refine wpAny_bind (wpAny_pure (wpAny_bind (L0.at (wpAny_bind (L3.at ?_)))))
  show wpAny _ _ (holding [Value.builtin "object.__class__"] (call (.builtin "getset_descriptor.__get__") [.builtin "object.__class__", .ref x, .ref D]) >>= ret) _ _ _
  refine wpAny_bind (wpAny_holding (wpAny_call (class_get (s := ⟨hp, g, d, t + 1, os⟩) (ox := ox) (od := od) X I C.hm ?_)))
  refine wpAny_pure ?_
  show wpAny _ _ (handedOut (.ref D)) _ _ _
  rw [handedOut_of (v := .ref D) rfl]
  first
    | exact wpAny_pure (wpAny_pure h)
    | exact wpAny_pure h
    | exact wpAny_pure (wpAny_bind (wpAny_pure (wpAny_pure h)))
theorem kitx_excA (C : ExcC K D) : KitX K (.ref x) (.ref D) (fun h => InstAt h x ox D od) where
  ty := fun _ _ _ I => I.type
  it := fun _ _ X _ => by
    obtain ⟨cdD, hcD, _⟩ := any_some C.hd
    unfold clsIn at hcD
    split at hcD
    · rename_i c' d' cd' sl' ho
      intro A' Q' E' s' k q
      unfold isType loadHead
      exact wpAny_bind (wpAny_loadPart (k _ _ (X _ _ ho)) (wpAny_pure q))
    · cases hcD
  ne := fun h tp dd its n sl X htp => by
    obtain ⟨cdD, hcD, _⟩ := any_some C.hd
    refine Bool.eq_false_iff.mpr fun q => ?_
    have e : D = tp := Value.ref.inj (beq_iff_eq.mp q)
    subst e
    unfold clsIn at hcD
    split at hcD
    · rename_i c' d' cd' sl' ho
      have z := (X _ _ ho).symm.trans htp
      cases z
    · cases hcD
  ca := fun X I k => kin_classA C X I k
end
/-- its dict is there -/
def DictV (H : Hp) (d : Option Addr) : Prop := d = none ∨ ∃ dd fs, d = some dd ∧ H dd = some (.xd fs)
theorem exH_at {X : Cx} {pins : List (Addr × Obj)} {σ : L2.St} {H : Hp} {s : Shared} {a C : Addr} {d : Option Addr} (I : Inv X pins σ H s) (h : H a = some (ExH (.ref C) d a)) (hd : DictV H d) : ∃ ox od, PySem.W.InstAt s.heap a ox C od := by
  have q : ObjOk X.prog X.w H s.heap a (.ext fun h => ∃ (oe : Obj) (vs : Array Value), h.get? a = some oe ∧ Zc (.ref C) d oe ∧ oe.data = .fields vs) := I.hok a _ h
  obtain ⟨oe, vs, ha, hz, hv⟩ := q.1
  rcases hd with rfl | ⟨dd, fs, rfl, hx⟩
  · obtain ⟨oc, od, oda, osl⟩ := oe
    obtain ⟨h1, h2⟩ := hz
    dsimp only at h1 h2 hv
    subst h1 h2 hv
    exact ⟨_, none, ha, rfl, rfl, trivial⟩
  · have hy : ObjOk X.prog X.w H s.heap dd (.xd fs) := I.hok dd _ hx
    obtain ⟨mA, hns, hr⟩ := hy
    obtain ⟨o, es, ep, ho, _⟩ := hns
    exact ⟨oe, some o, ha, hz.1, by unfold PySem.W.notCls; rw [hv] <;> rfl, by rw [hz.2]; exact ho⟩
def rIsX (K : PySem.W.Frag) : List V → Hp → VK → Prop := fun xs H Q => ∃ (a C : Addr) (d : Option Addr) (c : V) (u : Value) (b : Bool), xs = [.ref a, c] ∧ H a = some (ExH (.ref C) d a) ∧ DictV H d ∧ ExcC K C ∧ ClsV c u ∧ PySem.W.kitOne K (.ref C) u = some b ∧ Q (.bl b) H
def rIsXT (K : PySem.W.Frag) : List V → Hp → VK → Prop := fun xs H Q => ∃ (a C : Addr) (d : Option Addr) (tp : Addr) (cs : List V) (us : List Value) (b : Bool), xs = [.ref a, .ref tp] ∧ H a = some (ExH (.ref C) d a) ∧ DictV H d ∧ ExcC K C ∧ H tp = some (.tup cs) ∧ Paired ClsV cs us ∧ PySem.W.kitAny K (.ref C) us = some b ∧ Q (.bl b) H
def rIsiX (K : PySem.W.Frag) : List V → Hp → VK → Prop := fun xs H Q => rIsi K xs H Q ∨ rIsX K xs H Q
def rIsiXT (K : PySem.W.Frag) : List V → Hp → VK → Prop := fun xs H Q => rIsiT K xs H Q ∨ rIsXT K xs H Q
section
variable {X : Cx}
theorem call_isX : CallR X (.builtin "isinstance") (rIsX X.K) := by
  intro pins s σ H xs us Q I r h
  obtain ⟨a, C, d, c, u, b, rfl, ha, hd, hC, k, e, q⟩ := h
  obtain ⟨u1, u2, rfl, r1, r2⟩ := vals2 r
  have e2 := k.eq r2
  subst e2
  obtain rfl : u1 = Value.ref a := r1
  obtain ⟨ox, od, J⟩ := exH_at I ha hd
  exact PySem.W.kia_one (kitx_excA hC) I.kIn J e (fun z => nomatch z) fun tk => ⟨.bl b, H, I.tok tk, rfl, q⟩
theorem call_isXT : CallR X (.builtin "isinstance") (rIsXT X.K) := by
  intro pins s σ H xs us Q I r h
  obtain ⟨a, C, d, tp, cs, ws, b, rfl, ha, hd, hC, hT, k, e, q⟩ := h
  obtain ⟨u1, u2, rfl, r1, r2⟩ := vals2 r
  cases (show u2 = Value.ref tp from r2)
  obtain rfl : u1 = Value.ref a := r1
  obtain ⟨ox, od, J⟩ := exH_at I ha hd
  obtain ⟨_, its, rv, o, h1, h2, n, h3⟩ := (show ObjOk X.prog X.w H s.heap tp (.tup cs) from I.hok tp _ hT)
  have e3 := ClsV.all k rv
  subst e3
  obtain ⟨oc, od', dt, sl⟩ := o
  simp only at h2 h3
  subst h2 h3
  exact PySem.W.kia_tup (kitx_excA hC) I.kIn J h1 e (fun z => nomatch z) fun tk => ⟨.bl b, H, I.tok tk, rfl, q⟩
theorem call_isiX : CallR X (.builtin "isinstance") (rIsiX X.K) := fun pins s σ H xs us Q I r h => h.elim (fun h => call_isi pins s σ H xs us Q I r h) fun h => call_isX pins s σ H xs us Q I r h
theorem call_isiXT : CallR X (.builtin "isinstance") (rIsiXT X.K) := fun pins s σ H xs us Q I r h => h.elim (fun h => call_isiT pins s σ H xs us Q I r h) fun h => call_isXT pins s σ H xs us Q I r h
theorem k_isiX (K : PySem.W.Frag) (hK : X.K = K := by rfl) : CallR X (.builtin "isinstance") (rIsiX K) := hK ▸ call_isiX
theorem k_isiXT (K : PySem.W.Frag) (hK : X.K = K := by rfl) : CallR X (.builtin "isinstance") (rIsiXT K) := hK ▸ call_isiXT
/-- e.n, e such an exception -/
def tXv (K : PySem.W.Frag) (n : Str) (te : TE) : TE := fun σ H Q => te σ H fun x H1 => ∃ (a C dd : Addr) (fs : List (Str × V)) (v : V), x = .ref a ∧ H1 a = some (ExH (.ref C) (some dd) a) ∧ H1 dd = some (.xd fs) ∧ fs.lookup n = some v ∧ XfC K C ∧ PySem.W.findIn K (.ref C) n = some none ∧ Q v H1
theorem pe_xv (K : PySem.W.Frag) {e : Expr} {te : TE} {pos : Pos} {n : Str} (he : PE X e te) (hK : X.K = K := by rfl) (hb : attributeBase e n X.env (eval e X.env) = eval e X.env := by rfl) : PE X (.Attribute e n pos) (tXv K n te) := by
  subst hK
  refine ⟨fun pins s σ H Q I h => ?_⟩
  refine attr_of hb (thn (he.run pins s σ H _ I h) fun u s1 hh => ?_)
  obtain ⟨x, H1, I1, rx, a, C, dd, fs, v, ex, ha, hx, l, T, hno, q⟩ := hh
  subst ex
  obtain rfl : u = Value.ref a := rx
  have z : ObjOk X.prog X.w H1 s1.heap a (.ext fun h => ∃ (oe : Obj) (vs : Array Value), h.get? a = some oe ∧ Zc (.ref C) (some dd) oe ∧ oe.data = .fields vs) := I1.hok a _ ha
  obtain ⟨oe, vs, ho, hz, hv⟩ := z.1
  have hy : ObjOk X.prog X.w H1 s1.heap dd (.xd fs) := I1.hok dd _ hx
  obtain ⟨mA, hns, hr⟩ := hy
  obtain ⟨od, hod, hl⟩ := lookIn_ns hns
  obtain ⟨u, hu, ru⟩ := RelO.some_of (v := v) (o := mA n) (by rw [← l]; exact hr n)
  have J : PySem.W.InstAt s1.heap a oe C (some od) := ⟨ho, hz.1, by unfold PySem.W.notCls; rw [hv] <;> rfl, by rw [hz.2]; exact hod⟩
  exact HandSPX.exc_get I1.kIn J T.ga T.gg T.exC (PySem.W.findObj_own T.hdC hno rfl (by rw [hl, hu])) (handed_of ru) ⟨v, H1, I1.tok _, ru, q⟩
end

/-! ### calls of defs that may raise -/
def tCE (sp : Sp) (dvs : List V) (W : WX) (t : TA) : TE := fun σ H Q => t σ H fun vs H1 => sp (vs ++ dvs) H1 Q (WE W σ)
section
variable {X : Cx} {k j : Nat} {x : Str} {sp : Sp} {dvs : List V} {p pos : Pos} {e : Expr} {es : List Expr} {t : TA} {W : WX}
theorem pe_ce (c : Cf X.prog X.w X.K X.mg X.base (L2.CX X.prog X.w) k x sp dvs) (hr : Room j X.A) (hk : k ≤ j) (hg : Gl X x) (tk : Takes X W) (ha : PA X (e :: es) t)
    (hdb : (x == ("__debug__" : Str)) = false := by decide) (he : starEach (e :: es) X.env = (false, eval e X.env) :: starEach es X.env := by rfl) (hpl : (backTo pos (starEach es X.env)).any (·.1) = false := by rfl) :
    PE X (.Call (.Name x p) (e :: es) [] pos) (tCE sp dvs W t) := by
  obtain ⟨f, fd, ps, ds, F, hm, kp, b, d⟩ := c.ex
  exact pe_callSD F (hr.mono hk) hg hm kp b d (fun σ => passAt tk σ) ha hdb he hpl
end
/-! ### a method of a class as it stands behind the top -/
structure AtM (K : PySem.W.Frag) (p : Str × Option Str) (n q : Str) (st : Stmt) : Prop where
  ex : ∃ fd : FuncData, FunD K n q (defArgs st) (defBody st) (defScope st) [] [] (He.fAd K p) fd
/-- an own class with own __init__(self, f): message and field -/
structure OexM (K : PySem.W.Frag) (mg : Str → Option Value) (x f : Str) : Prop where
  gl : mg x = some (.ref (He.ga K x))
  oe : OexC K (He.ga K x)
  fi : PySem.W.findIn K (.ref (He.ga K x)) "__init__" = some (some (.ref (He.fAd K (x, some "__init__"))))
  ft : PySem.W.typeIn K (.ref (He.fAd K (x, some "__init__"))) = some (.type "function")
  no : PySem.W.findIn K (.ref (He.ga K x)) f = some none
  xf : XfC K (He.ga K x)
/-- .. without: X('..') -/
structure OexN (K : PySem.W.Frag) (mg : Str → Option Value) (x : Str) : Prop where
  gl : mg x = some (.ref (He.ga K x))
  ei : PySem.W.excIn K (He.ga K x) [.type "ValueError", .type "Exception", .type "BaseException", .type "object"] "ValueError.__new__" = true
  kp : PySem.W.keepIn K (.ref (He.ga K x)) = true
  bs : PySem.W.subIn K (.ref (He.ga K x)) (.type "BaseException") = some true
  ty : PySem.W.typeIn K (.ref (He.ga K x)) = some (.type "type")
def FmtV (x : V) : Prop := x = .non ∨ (∃ y : Str, x = .str y ∧ y.length ≤ 1000) ∨ ∃ i : Int, x = .int i ∧ 0 ≤ i ∧ i < 10 ^ 300
theorem fmt_int {i : Int} (h : 0 ≤ i) (h2 : i < 10 ^ 300) : FmtV (.int i) := .inr (.inr ⟨i, rfl, h, h2⟩)
theorem fmt_nat {i : Nat} (h2 : i < 10 ^ 300) : FmtV (.int i) := fmt_int (by omega) (by exact_mod_cast h2)
def clsB : Stmt → List Stmt
  | .ClassDef (body := b) .. => b
  | _ => []
def sp_xi (K : PySem.W.Frag) (x f : Str) : Sp := fun vs H Q _ => ∃ (a : Addr) (y : V), vs = [.ref a, y] ∧ H a = some (exo a (He.ga K x) none) ∧ FmtV y ∧ ∀ d, H d = none → d ≠ a → Q .non (upd (upd H d (exd d [(f, y)])) a (exo a (He.ga K x) (some d)))

/-! ### facts by names -/
abbrev veB : List Value := [.type "ValueError", .type "Exception", .type "BaseException", .type "object"]
open He in
def excCB (K : PySem.W.Frag) (D : Addr) : Bool := eqO (PySem.W.findIn K (.ref D) "__getattribute__") (some (some (.builtin "BaseException.__getattribute__"))) && (eqO (PySem.W.findIn K (.ref D) "__getattr__") (some none) && (decide (PySem.W.subIn K (.ref D) (.type "BaseException") = some true) &&
  (PySem.W.hasDictIn K D && (eqO (PySem.W.findIn K (.ref D) "__class__") (some (some (.builtin "object.__class__"))) && (eqO (PySem.W.specialIn K (.builtin "object.__class__") "__get__") (some (some (.builtin "getset_descriptor.__get__"))) &&
  (decide (PySem.W.takesIn K (.builtin "object.__class__") = some true) && decide (PySem.W.mroIn K D (.type "object") = some true)))))))
theorem excCB_ok {K : PySem.W.Frag} {D : Addr} (h : excCB K D = true) : ExcC K D := by
  obtain ⟨h1, h⟩ := He.ba h
  obtain ⟨h2, h⟩ := He.ba h
  obtain ⟨h3, h⟩ := He.ba h
  obtain ⟨h4, h⟩ := He.ba h
  obtain ⟨h5, h⟩ := He.ba h
  obtain ⟨h6, h⟩ := He.ba h
  obtain ⟨h7, h8⟩ := He.ba h
  exact ⟨He.eqO_ok h1, He.eqO_ok h2, of_decide_eq_true h3, h4, He.eqO_ok h5, He.eqO_ok h6, of_decide_eq_true h7, of_decide_eq_true h8⟩
def oexB (K : PySem.W.Frag) (C : Addr) : Bool := match K.lookup C with
  | some ⟨.type "type", _, .cls cd, sl⟩ => (match cd.mro, sl.toList with
    | .ref C' :: bm, [_, _, _, _, some (.builtin n), _] => C' == C && n == "ValueError.__new__" && !cd.hasDel && cd.hasDict && PySem.HandSPX.refsVE bm
    | _, _ => false)
  | _ => false
theorem oexB_ok {K : PySem.W.Frag} {C : Addr} (q : oexB K C = true) : ∃ nm q N bs bm sn sub ab col dd k0 k1 k2 k3 k5, K.lookup C = some (excClassObj nm q C N bs bm true sn sub ab col dd k0 k1 k2 k3 k5 "ValueError.__new__") ∧ PySem.HandSPX.refsVE bm = true := by
  unfold oexB at q
  split at q
  · rename_i dd cd sl ho
    split at q
    · rename_i C' bm k0 k1 k2 k3 n k5 hm hs
      simp only [Bool.and_eq_true, beq_iff_eq, Bool.not_eq_true'] at q
      obtain ⟨⟨⟨⟨rfl, rfl⟩, hdel⟩, hdict⟩, hve⟩ := q
      obtain ⟨nm, bs, mro, ns, qn, hd, sn, sub, ab, col, del⟩ := cd
      dsimp only at hm hdel hdict
      subst hm hdel hdict
      have hsl : sl = #[k0, k1, k2, k3, some (.builtin "ValueError.__new__"), k5] := by
        obtain ⟨l⟩ := sl
        simp only at hs
        rw [hs]
      subst hsl
      exact ⟨nm, qn, ns, bs, bm, sn, sub, ab, col, dd, k0, k1, k2, k3, k5, ho, hve⟩
    · cases q
  · cases q
open He in
def msgB (K : PySem.W.Frag) (x : Str) : Bool := PySem.W.excIn K (ga K x) veB "ValueError.__new__" && (PySem.W.keepIn K (.ref (ga K x)) && (decide (PySem.W.subIn K (.ref (ga K x)) (.type "BaseException") = some true) && decide (PySem.W.typeIn K (.ref (ga K x)) = some (.type "type"))))
open He in
def iniB (K : PySem.W.Frag) (x f : Str) : Bool := oexB K (ga K x) && (eqO (PySem.W.findIn K (.ref (ga K x)) "__setattr__") (some (some (.builtin "object.__setattr__"))) && (decide (PySem.W.subIn K (.ref (ga K x)) (.type "BaseException") = some true) && (decide (PySem.W.typeIn K (.ref (ga K x)) = some (.type "type")) &&
  (PySem.W.keepIn K (.ref (ga K x)) && (eqO (PySem.W.findIn K (.ref (ga K x)) "__init__") (some (some (.ref (fAd K (x, some "__init__"))))) && (decide (PySem.W.typeIn K (.ref (fAd K (x, some "__init__"))) = some (.type "function")) && (eqO (PySem.W.findIn K (.ref (ga K x)) f) (some none) && xfB K (ga K x))))))))
theorem msgB_ok {K : PySem.W.Frag} {mg : Str → Option Value} {x : Str} (g : mg x = some (.ref (He.ga K x))) (h : msgB K x = true) : OexN K mg x := by
  obtain ⟨h1, h⟩ := He.ba h
  obtain ⟨h2, h⟩ := He.ba h
  obtain ⟨h3, h4⟩ := He.ba h
  exact ⟨g, h1, h2, of_decide_eq_true h3, of_decide_eq_true h4⟩
theorem iniB_ok {K : PySem.W.Frag} {mg : Str → Option Value} {x f : Str} (g : mg x = some (.ref (He.ga K x))) (h : iniB K x f = true) : OexM K mg x f := by
  obtain ⟨h1, h⟩ := He.ba h
  obtain ⟨h2, h⟩ := He.ba h
  obtain ⟨h3, h⟩ := He.ba h
  obtain ⟨h4, h⟩ := He.ba h
  obtain ⟨h5, h⟩ := He.ba h
  obtain ⟨h6, h⟩ := He.ba h
  obtain ⟨h7, h⟩ := He.ba h
  obtain ⟨h8, h9⟩ := He.ba h
  exact ⟨g, ⟨oexB_ok h1, He.eqO_ok h2, of_decide_eq_true h3, of_decide_eq_true h4, h5⟩, He.eqO_ok h6, of_decide_eq_true h7, He.eqO_ok h8, xfB_ok h9⟩
open He in
def deaB (K : PySem.W.Frag) (D : Addr) : Bool := PySem.W.readsIn K D (.type "type") && (eqO (PySem.W.specialIn K (.ref D) "__getattribute__") (some (some (.builtin "type.__getattribute__"))) && (match PySem.W.findCls K (.ref D) (.type "type") "__init__" with
  | some (.val (.builtin n)) => decide (n = "ValueError.__init__")
  | _ => false))
theorem deaB_ok {K : PySem.W.Frag} {D : Addr} (h : deaB K D = true) : DearC K D := by
  obtain ⟨h1, h⟩ := He.ba h
  obtain ⟨h2, h⟩ := He.ba h
  refine ⟨h1, He.eqO_ok h2, ?_⟩
  split at h
  · rename_i n e
    rw [e, of_decide_eq_true h]
  · cases h
/-- what is told of the classes cs (with init ms: their fields; without ns), D the base of all -/
structure Exs (K : PySem.W.Frag) (mg : Str → Option Value) (D : Str) (cs : List Str) (ms : List (Str × Str)) (ns : List Str) : Prop where
  g : ∀ x ∈ cs, mg x = some (.ref (He.ga K x))
  c : ∀ x ∈ cs, ExcC K (He.ga K x)
  k : ∀ x ∈ cs, ∀ y ∈ cs, PySem.W.kitOne K (.ref (He.ga K x)) (.ref (He.ga K y)) = some (decide (x = y) || decide (y = D))
  m : ∀ x ∈ cs, ∀ y ∈ cs, PySem.W.exmOne K (.ref (He.ga K x)) (.ref (He.ga K y)) = some (decide (x = y) || decide (y = D))
  v : ∀ x ∈ cs, PySem.W.kitOne K (.ref (He.ga K x)) (.type "ValueError") = some true
  n : ∀ y ∈ cs, PySem.W.kitOne K (.type "NoneType") (.ref (He.ga K y)) = some false
  i : ∀ q ∈ ms, OexM K mg q.1 q.2
  s : ∀ x ∈ ns, OexN K mg x
  d : DearC K (He.ga K D)
open He in
def exsB (D : Str) (cs : List Str) (ms : List (Str × Str)) (ns : List Str) (K : PySem.W.Frag) : Bool :=
  (cs.all fun x => eqO (PySem.W.nsIn K mainGlobals x) (some (some (.ref (ga K x))))) && ((cs.all fun x => excCB K (ga K x)) && ((cs.all fun x => cs.all fun y => decide (PySem.W.kitOne K (.ref (ga K x)) (.ref (ga K y)) = some (decide (x = y) || decide (y = D)))) &&
  ((cs.all fun x => cs.all fun y => decide (PySem.W.exmOne K (.ref (ga K x)) (.ref (ga K y)) = some (decide (x = y) || decide (y = D)))) && ((cs.all fun x => decide (PySem.W.kitOne K (.ref (ga K x)) (.type "ValueError") = some true)) &&
  ((cs.all fun x => decide (PySem.W.kitOne K (.type "NoneType") (.ref (ga K x)) = some false)) && ((ms.all fun q => decide (q.1 ∈ cs) && iniB K q.1 q.2) && ((ns.all fun x => decide (x ∈ cs) && msgB K x) && deaB K (ga K D))))))))
theorem exsB_ok {D : Str} {cs : List Str} {ms : List (Str × Str)} {ns : List Str} {K : PySem.W.Frag} {mg : Str → Option Value} {h : Heap} (X : K.In h) (G : h.Ns mainGlobals mg) (c : exsB D cs ms ns K = true) : Exs K mg D cs ms ns := by
  obtain ⟨h1, c⟩ := He.ba c
  obtain ⟨h2, c⟩ := He.ba c
  obtain ⟨h3, c⟩ := He.ba c
  obtain ⟨h4, c⟩ := He.ba c
  obtain ⟨h5, c⟩ := He.ba c
  obtain ⟨h6, c⟩ := He.ba c
  obtain ⟨h7, c⟩ := He.ba c
  obtain ⟨h8, h9⟩ := He.ba c
  have g : ∀ x ∈ cs, mg x = some (.ref (He.ga K x)) := fun x hx => PySem.W.mg_of X G (He.eqO_ok (List.all_eq_true.mp h1 x hx))
  exact ⟨g, fun x hx => excCB_ok (List.all_eq_true.mp h2 x hx), fun x hx y hy => of_decide_eq_true (List.all_eq_true.mp (List.all_eq_true.mp h3 x hx) y hy), fun x hx y hy => of_decide_eq_true (List.all_eq_true.mp (List.all_eq_true.mp h4 x hx) y hy),
    fun x hx => of_decide_eq_true (List.all_eq_true.mp h5 x hx), fun x hx => of_decide_eq_true (List.all_eq_true.mp h6 x hx),
    fun q hq => by
      obtain ⟨a, b⟩ := He.ba (List.all_eq_true.mp h7 q hq)
      exact iniB_ok (g _ (of_decide_eq_true a)) b,
    fun x hx => by
      obtain ⟨a, b⟩ := He.ba (List.all_eq_true.mp h8 x hx)
      exact msgB_ok (g _ (of_decide_eq_true a)) b, deaB_ok h9⟩
/-! the hook: by one more Bool -/
section
open He
abbrev AlE : Type := AlD × Bool
structure SaysE (fa : List Fa) (fn : List DefD) (ex : PySem.W.Frag → Bool) (K : PySem.W.Frag) : Prop where
  d : SaysD fa fn K
  more : ex K = true
def asE (g : Addr → Option Obj) : Nat → List Addr
  | 0 => [mainGlobals, cStatics]
  | n + 1 => growD g (asE g n)
def obsE (n : Nat) (fa : List Fa) (fn : List DefD) (ex : PySem.W.Frag → Bool) (g : Addr → Option Obj) : AlE := (obsD fa fn (frG g (asE g n)), ex (frG g (asE g n)))
def valE (fn : List DefD) : AlE := (valD fn, true)
def hookE (n : Nat) (fa : List Fa) (fn : List DefD) (ex : PySem.W.Frag → Bool) : PySem.W.Hook where
  α := AlE
  obs := fun s => obsE n fa fn ex s.heap.get?
  val := fun _ => valE fn
  says := fun _ h => ∃ K : PySem.W.Frag, K.In h ∧ SaysE fa fn ex K
  of := fun _ _ e => ⟨_, frG_in, ⟨congrArg (fun z : AlE => z.1) e, congrArg (fun z : AlE => z.2) e⟩⟩
  keeps := fun _ _ _ ⟨K, hK, c⟩ k => ⟨K, PySem.W.Frag.In.keeps hK k, c⟩
theorem obsE_eq {n : Nat} {fa : List Fa} {fn : List DefD} {ex : PySem.W.Frag → Bool} {g : Addr → Option Obj} {s : Shared} (h : ∀ a, g a = s.heap.get? a) : obsE n fa fn ex g = (hookE n fa fn ex).obs s := by
  have e : g = s.heap.get? := funext h
  rw [e] <;> rfl
end
/-! ### own __init__s, raises -/
structure Oi (P : Program) (w : World) (K : PySem.W.Frag) (mg : Str → Option Value) (base : Heap) (x f : Str) : Prop where
  ex : ∃ fd : FuncData, FnOk P w K mg base CX0 1 (He.fAd K (x, some "__init__")) fd [("self" : Str), f] (sp_xi K x f) ∧ Binds K fd [("self" : Str), f] []
theorem AtM.oi {P : Program} {w : World} {K : PySem.W.Frag} {mg : Str → Option Value} {base : Heap} {x f q : Str} {st : Stmt} {N : List Str} (F : AtM K (x, some "__init__") "__init__" q st) (S : FnScope N [("self" : Str), f] (defScope st))
    (b : ∀ (kV doc pm : Value) (an : Option Addr) (cdv ct : Value) (us : List Value), us.length = 2 → bindArgs (PySem.W.fnOf "__init__" q (defArgs st) (defBody st) (defScope st) .none kV doc pm an cdv ct) ⟨us, []⟩ = pure ([("self" : Str), f].zip us))
    (hbody : ∀ (cdv : Value) (A : Around) (outer : List Env) (s : Shared) (H : Hp) (vs : List V) (Q : VK) (E : XK), Room 0 (A.deeper (envOfC q (defScope st) s.heap.objs.size (He.fAd K (x, some "__init__")) cdv)) → sp_xi K x f vs H Q E →
      ∃ t, PSs (cxOf CX0 P w K mg base N q (defScope st) (He.fAd K (x, some "__init__")) cdv A outer s H E).nox (defBody st) t ∧ t { nx := fun _ H' => Q .non H', rt := Q } (start N vs) H) : Oi P w K mg base x f := by
  obtain ⟨fd, F⟩ := F.ex
  refine ⟨fd, F.ok S (fun vs H Q E h => ?_) fun cdv A outer s H vs Q E hr h => ?_, ?_⟩
  · obtain ⟨a, y, rfl, _⟩ := h
    rfl
  · obtain ⟨t, h1, h2⟩ := hbody cdv A outer s H vs Q E hr h
    exact ⟨t, h1.nox, h2⟩
  · obtain ⟨oc, od, dV, kV, doc, pm, an, cdv, ct, osl, rfl, _, _, hD, _⟩ := F.ex
    rcases hD with ⟨_, rfl⟩ | ⟨n, _⟩
    · exact .all (b kV doc pm an cdv ct)
    · exact absurd rfl n
def tRaiO (K : PySem.W.Frag) (x f : Str) (W : WX) (ta : TA) : TS := fun _ σ H => tMkO (He.ga K x) (sp_xi K x f) [] ta σ H fun cls d H' => W cls d σ H'
def tRaiN (K : PySem.W.Frag) (x : Str) (W : WX) (ta : TA) : TS := fun _ σ H => ta σ H fun vs H1 => vs.length ≤ sizeLine ∧ W (.ref (He.ga K x)) none σ H1
section
variable {X : Cx} {W : WX} {x f : Str} {j : Nat} {e : Expr} {es : List Expr} {ta : TA} {p pos pos' : Pos}
theorem ps_raiO (K : PySem.W.Frag) (hc : X.calm = true) (tk : Takes X W) (M : OexM K X.mg x f) (F : Oi X.prog X.w K X.mg X.base x f) (hr : Room j X.A) (hj : 2 ≤ j) (hg : Gl X x) (ha : PA X (e :: es) ta) (hK : X.K = K := by rfl)
    (hdb : (x == ("__debug__" : Str)) = false := by decide) (he : starEach (e :: es) X.env = (false, eval e X.env) :: starEach es X.env := by rfl) (hpl : (backTo pos (starEach es X.env)).any (·.1) = false := by rfl) :
    PS X (.Raise (some (.Call (.Name x p) (e :: es) [] pos)) none pos') (tRaiO K x f W ta) := by
  subst hK
  obtain ⟨fd, F1, hb⟩ := F.ex
  exact ps_raise hc tk (pmk_oex M.oe M.fi M.ft F1 (hr.mono hj) hb .nil pass0 hg M.gl ha hdb he hpl)
theorem ps_raiN (K : PySem.W.Frag) (hc : X.calm = true) (tk : Takes X W) (M : OexN K X.mg x) (hg : Gl X x) (ha : PA X (e :: es) ta) (hK : X.K = K := by rfl)
    (hdb : (x == ("__debug__" : Str)) = false := by decide) (he : starEach (e :: es) X.env = (false, eval e X.env) :: starEach es X.env := by rfl) (hpl : (backTo pos (starEach es X.env)).any (·.1) = false := by rfl) :
    PS X (.Raise (some (.Call (.Name x p) (e :: es) [] pos)) none pos') (tRaiN K x W ta) := by
  subst hK
  exact ps_raise hc tk (pmk_ownA PySem.F.excBase_ValueError M.ei M.gl M.kp (raises_own M.bs M.ty) hg ha hdb he hpl)
end
section
variable {K : PySem.W.Frag} {x f : Str} {W : WX} {ta : TA} {D : Ends} {σ : L2.St} {H : Hp}
theorem r_raiN (q : ta σ H fun vs H1 => vs.length ≤ sizeLine ∧ W (.ref (He.ga K x)) none σ H1) : tRaiN K x W ta D σ H := q
theorem r_raiO (q : ta σ H fun vs H1 => vs.length ≤ 1000 ∧ ∀ a, H1 a = none → sp_xi K x f (.ref a :: (vs ++ [])) (upd H1 a (exo a (He.ga K x) none))
  (fun v H2 => v = .non ∧ ∃ (d : Addr) (fs : List (Str × V)), H2 a = some (exo a (He.ga K x) (some d)) ∧ H2 d = some (exd d fs) ∧ H1 d = none ∧ W (.ref (He.ga K x)) (some d) σ (upd (L2.del H2 a) d (.xd fs))) (fun _ _ _ => False)) : tRaiO K x f W ta D σ H := q
theorem r_raiW {y : V} (hf : FmtV y) (q : ∀ d, H d = none → W (.ref (He.ga K x)) (some d) σ (upd H d (.xd [(f, y)]))) :
    [y].length ≤ 1000 ∧ ∀ a, H a = none → sp_xi K x f (.ref a :: ([y] ++ [])) (upd H a (exo a (He.ga K x) none))
      (fun v H2 => v = .non ∧ ∃ (d : Addr) (fs : List (Str × V)), H2 a = some (exo a (He.ga K x) (some d)) ∧ H2 d = some (exd d fs) ∧ H d = none ∧ W (.ref (He.ga K x)) (some d) σ (upd (L2.del H2 a) d (.xd fs))) (fun _ _ _ => False) := by
  refine ⟨by simp, fun a ha => ⟨a, y, rfl, upd_same, hf, fun d hd hda => ⟨rfl, d, [(f, y)], upd_same, ?_, ?_, ?_⟩⟩⟩
  · rw [upd_ne hda, upd_same]
  · rw [upd_ne hda] at hd
    exact hd
  · rw [upd_ne hda] at hd
    have e : upd (L2.del (upd (upd (upd H a (exo a (He.ga K x) none)) d (exd d [(f, y)])) a (exo a (He.ga K x) (some d))) a) d (.xd [(f, y)]) = upd H d (.xd [(f, y)]) := by
      funext b
      by_cases hb : b = d
      · rw [hb, upd_same, upd_same]
      · rw [upd_ne hb, upd_ne hb]
        by_cases h2 : b = a
        · rw [h2, del_same, ha]
        · rw [del_ne h2, upd_ne h2, upd_ne hb, upd_ne h2]
    rw [e]
    exact q d hd
theorem r_raiE {R : XK} {y : V} (hf : FmtV y) (q : ∀ d, H d = none → R (.ref (He.ga K x)) (some d) (upd H d (.xd [(f, y)]))) :
    [y].length ≤ 1000 ∧ ∀ a, H a = none → sp_xi K x f (.ref a :: ([y] ++ [])) (upd H a (exo a (He.ga K x) none))
      (fun v H2 => v = .non ∧ ∃ (d : Addr) (fs : List (Str × V)), H2 a = some (exo a (He.ga K x) (some d)) ∧ H2 d = some (exd d fs) ∧ H d = none ∧ R (.ref (He.ga K x)) (some d) (upd (L2.del H2 a) d (.xd fs))) (fun _ _ _ => False) := by
  refine ⟨by simp, fun a ha => ⟨a, y, rfl, upd_same, hf, fun d hd hda => ⟨rfl, d, [(f, y)], upd_same, ?_, ?_, ?_⟩⟩⟩
  · rw [upd_ne hda, upd_same]
  · rw [upd_ne hda] at hd
    exact hd
  · rw [upd_ne hda] at hd
    have e : upd (L2.del (upd (upd (upd H a (exo a (He.ga K x) none)) d (exd d [(f, y)])) a (exo a (He.ga K x) (some d))) a) d (.xd [(f, y)]) = upd H d (.xd [(f, y)]) := by
      funext b
      by_cases hb : b = d
      · rw [hb, upd_same, upd_same]
      · rw [upd_ne hb, upd_ne hb]
        by_cases h2 : b = a
        · rw [h2, del_same, ha]
        · rw [del_ne h2, upd_ne h2, upd_ne hb, upd_ne h2]
    rw [e]
    exact q d hd
theorem r_ce {sp : Sp} {dvs : List V} {Q : VK} {t : TA} (q : t σ H fun vs H1 => sp (vs ++ dvs) H1 Q (WE W σ)) : tCE sp dvs W t σ H Q := q
theorem r_veI {Q : VK} (q : ta σ H fun vs H1 => ∃ (a C : Addr) (ws : List V), vs = .ref a :: ws ∧ ws.length ≤ 1000 ∧ OexC K C ∧ H1 a = some (exo a C none) ∧ Q .non H1) : tVeI K ta σ H Q := q
theorem r_ost {to te : TE} (q : te σ H fun y H1 => to σ H1 fun x H2 => ∃ a C : Addr, x = .ref a ∧ OexC K C ∧ PySem.W.findIn K (.ref C) f = some none ∧
  ((H2 a = some (exo a C none) ∧ ∀ dx, H2 dx = none → dx ≠ a → D.nx σ (upd (upd H2 dx (exd dx [(f, y)])) a (exo a C (some dx)))) ∨
    ∃ (dx : Addr) (fs : List (Str × V)), H2 a = some (exo a C (some dx)) ∧ H2 dx = some (exd dx fs) ∧ fs.length ≤ 900 ∧ D.nx σ (upd H2 dx (exd dx ((f, y) :: fs))))) : tOst K f to te D σ H := q
theorem r_fmtN {te : TE} {Q : VK} (q : te σ H fun x H1 => rFmtN x H1 Q) : tFmtN te σ H Q := q
theorem r_fmtNV {y : V} {Q : VK} (hf : FmtV y) (q : ∀ z : Str, z.length ≤ 1000 → Q (.str z) H) : rFmtN y H Q := by
  rcases hf with rfl | ⟨z, rfl, hz⟩ | ⟨i, rfl, h0, h1⟩
  · exact .inr (.inr ⟨rfl, q _ (by decide)⟩)
  · exact .inl ⟨z, rfl, Nat.le_trans hz (by decide), q _ hz⟩
  · refine .inr (.inl ⟨i, rfl, ?_, q _ ?_⟩)
    · have h2 : i.natAbs < 10 ^ 300 := by omega
      by_cases hz : i.natAbs = 0
      · rw [hz]
        decide
      · exact (Nat.log2_lt hz).mpr (Nat.lt_trans h2 (by decide +kernel))
    · exact Nat.le_trans (toString_length_le h0 (k := 300) (by decide) h1) (by decide)
theorem r_jsV {ts : List TE} {m x : Str} {QS : Str → Hp → Prop} (hm : m.length ≤ 1000) (hx : x.length ≤ 1000) (q : ∀ z, tJs ts z σ H QS) : ∃ y : Str, V.str x = .str y ∧ (m ++ y).length ≤ sizeLine ∧ tJs ts (m ++ y) σ H QS := ⟨x, rfl, by rw [Z.len_app, sizeLine_eq]; omega, q _⟩
end

/-! ### asking an exception that was kept -/
section
variable {K : PySem.W.Frag} {mg : Str → Option Value} {B : Str} {cs : List Str} {ms : List (Str × Str)} {ns : List Str} {H : Hp} {Q : VK} {a : Addr} {d : Option Addr} {x : Str}
theorem r_isX (b : Bool) {y : Str} (E : Exs K mg B cs ms ns) (hx : x ∈ cs) (hy : y ∈ cs) (ha : H a = some (ExH (.ref (He.ga K x)) d a)) (hd : DictV H d) (q : Q (.bl b) H) (hb : (decide (x = y) || decide (y = B)) = b := by decide +kernel) : rIsiX K [.ref a, .ref (He.ga K y)] H Q :=
  .inr ⟨a, _, d, _, _, _, rfl, ha, hd, E.c x hx, .own _, E.k x hx y hy, hb ▸ q⟩
theorem r_isXv (E : Exs K mg B cs ms ns) (hx : x ∈ cs) (ha : H a = some (ExH (.ref (He.ga K x)) d a)) (hd : DictV H d) (q : Q (.bl true) H) : rIsiX K [.ref a, .ty "ValueError"] H Q :=
  .inr ⟨a, _, d, _, _, _, rfl, ha, hd, E.c x hx, .ty "ValueError", E.v x hx, q⟩
theorem r_isXn {y : Str} (E : Exs K mg B cs ms ns) (hy : y ∈ cs) (q : Q (.bl false) H) : rIsiX K [.non, .ref (He.ga K y)] H Q :=
  .inl ⟨_, _, _, _, _, rfl, .own _, .base .non, E.n y hy, q⟩
theorem kit_any {ys : List Str} (E : Exs K mg B cs ms ns) (hx : x ∈ cs) (hy : ∀ y ∈ ys, y ∈ cs) : PySem.W.kitAny K (.ref (He.ga K x)) (ys.map fun y => Value.ref (He.ga K y)) = some (ys.any fun y => decide (x = y) || decide (y = B)) := by
  induction ys with
  | nil => rfl
  | cons y ys ih =>
    have h1 := E.k x hx y (hy y List.mem_cons_self)
    have h2 := ih fun z hz => hy z (List.mem_cons_of_mem _ hz)
    rw [List.map_cons, List.any_cons]
    cases e : (decide (x = y) || decide (y = B)) with
    | true =>
      rw [e] at h1
      exact kitAny_cons h1 (fun z => nomatch z) fun _ => rfl
    | false =>
      rw [e] at h1
      rw [Bool.false_or]
      exact kitAny_cons h1 (fun _ => h2) fun z => nomatch z
theorem r_isXT (b : Bool) {tp : Addr} (ys : List Str) (E : Exs K mg B cs ms ns) (hx : x ∈ cs) (hy : ∀ y ∈ ys, y ∈ cs) (ha : H a = some (ExH (.ref (He.ga K x)) d a)) (hd : DictV H d) (ht : H tp = some (.tup (ys.map fun y => .ref (He.ga K y)))) (q : Q (.bl b) H) (hb : (ys.any fun y => decide (x = y) || decide (y = B)) = b := by decide +kernel) : rIsiXT K [.ref a, .ref tp] H Q := by
  subst hb
  refine .inr ⟨a, _, d, tp, _, ys.map fun y => Value.ref (He.ga K y), _, rfl, ha, hd, E.c x hx, ht, ?_, kit_any E hx hy, q⟩
  clear ht hy q
  induction ys with
  | nil => exact .nil
  | cons y ys ih => exact .cons (.own _) ih
theorem r_xv0 {te : TE} {n : Str} {σ : L2.St} (q : te σ H fun x H1 => ∃ (a C dd : Addr) (fs : List (Str × V)) (v : V), x = .ref a ∧ H1 a = some (ExH (.ref C) (some dd) a) ∧ H1 dd = some (.xd fs) ∧ fs.lookup n = some v ∧ XfC K C ∧ PySem.W.findIn K (.ref C) n = some none ∧ Q v H1) : tXv K n te σ H Q := q
theorem r_xv {R : V → Prop} {dd : Addr} {f : Str} {v : V} (E : OexM K mg x f) (ha : H a = some (ExH (.ref (He.ga K x)) (some dd) a)) (hd : H dd = some (.xd [(f, v)])) (q : R v) :
    ∃ (a' C dd : Addr) (fs : List (Str × V)) (v : V), V.ref a = .ref a' ∧ H a' = some (ExH (.ref C) (some dd) a') ∧ H dd = some (.xd fs) ∧ fs.lookup f = some v ∧ XfC K C ∧ PySem.W.findIn K (.ref C) f = some none ∧ R v :=
  ⟨a, _, dd, _, v, rfl, ha, hd, by simp [List.lookup], E.xf, E.no, q⟩
end
theorem r_dnewK {σ : L2.St} {H : Hp} {Q : VK} (q : ∀ p H', H p = none → Same H H' → H' p = some (.dK []) → Q (.ref p) H') : tDNewK σ H Q := fun p hp => q p _ hp (Same.new hp) upd_same
end Z

/-! Zd: data of any kind, told by its kind; dicts. -/
namespace Z
open PySem PySem.Spec PyProof.Rows L2

/-! ### data: none, bools, ints, texts, lists, tuples, an empty dict -/
mutual
inductive Dq (H : Hp) : V → PyData → Prop
  | non : Dq H .non .none
  | bl (b : Bool) : Dq H (.bl b) (.bool b)
  | int (i : Int) : Dq H (.int i) (.int i)
  | str (x : Str) (h : x.length ≤ 1000000) : Dq H (.str x) (.str x)
  | lst {a : Addr} {xs : List V} {ds : List PyData} : H a = some (.lst xs) → DqAll H xs ds → xs.length ≤ 1000000 → Dq H (.ref a) (.list ds)
  | tup {a : Addr} {xs : List V} {ds : List PyData} : H a = some (.tup xs) → DqAll H xs ds → xs.length ≤ 1000000 → Dq H (.ref a) (.tuple ds)
  | dic {a : Addr} : H a = some (.dK []) → Dq H (.ref a) (.dict [])
inductive DqAll (H : Hp) : List V → List PyData → Prop
  | nil : DqAll H [] []
  | cons {v : V} {vs : List V} {d : PyData} {ds : List PyData} : Dq H v d → DqAll H vs ds → DqAll H (v :: vs) (d :: ds)
end
mutual
theorem Dq.up {H H' : Hp} (e : Same H H') : ∀ {v : V} {d : PyData}, Dq H v d → Dq H' v d
  | _, _, .non => .non
  | _, _, .bl b => .bl b
  | _, _, .int i => .int i
  | _, _, .str x h => .str x h
  | _, _, .lst h r n => .lst (e _ _ h) (DqAll.up e r) n
  | _, _, .tup h r n => .tup (e _ _ h) (DqAll.up e r) n
  | _, _, .dic h => .dic (e _ _ h)
theorem DqAll.up {H H' : Hp} (e : Same H H') : ∀ {vs : List V} {ds : List PyData}, DqAll H vs ds → DqAll H' vs ds
  | _, _, .nil => .nil
  | _, _, .cons h r => .cons (Dq.up e h) (DqAll.up e r)
end
theorem DqAll.length {H : Hp} : ∀ {vs : List V} {ds : List PyData}, DqAll H vs ds → vs.length = ds.length
  | _, _, .nil => rfl
  | _, _, .cons _ r => by rw [List.length_cons, List.length_cons, DqAll.length r]
theorem DqAll.get {H : Hp} : ∀ {vs : List V} {ds : List PyData}, DqAll H vs ds → ∀ (i : Nat) (h1 : i < vs.length) (h2 : i < ds.length), Dq H vs[i] ds[i]
  | _, _, .cons h _, 0, _, _ => h
  | _, _, .cons _ r, i + 1, h1, h2 => DqAll.get r i (Nat.lt_of_succ_lt_succ h1) (Nat.lt_of_succ_lt_succ h2)
theorem DqAll.app {H : Hp} : ∀ {vs : List V} {ds : List PyData} {us : List V} {es : List PyData}, DqAll H vs ds → DqAll H us es → DqAll H (vs ++ us) (ds ++ es)
  | _, _, _, _, .nil, r => r
  | _, _, _, _, .cons h q, r => .cons h (DqAll.app q r)
/-! kinds -/
def isInt : PyData → Bool
  | .int _ | .bool _ => true
  | _ => false
def isBool : PyData → Bool
  | .bool _ => true
  | _ => false
def isStr : PyData → Bool
  | .str _ => true
  | _ => false
def isList : PyData → Bool
  | .list _ => true
  | _ => false
def isTuple : PyData → Bool
  | .tuple _ => true
  | _ => false
def isDict : PyData → Bool
  | .dict _ => true
  | _ => false
section
variable {K : PySem.W.Frag} {H : Hp} {Q : VK} {x : V} {d : PyData}
theorem r_isQ_int (h : Dq H x d) (q : Q (.bl (isInt d)) H) : rIsi K [x, .ty "int"] H Q := by
  cases h with
  | non => exact q_NoneType_int q
  | bl b => exact q_bool_int q
  | int i => exact q_int_int q
  | str z hz => exact q_str_int q
  | lst a r n => exact q_list_int a q
  | tup a r n => exact q_tuple_int a q
  | dic a => exact q_dict_int a q
theorem r_isQ_bool (h : Dq H x d) (q : Q (.bl (isBool d)) H) : rIsi K [x, .ty "bool"] H Q := by
  cases h with
  | non => exact q_NoneType_bool q
  | bl b => exact q_bool_bool q
  | int i => exact q_int_bool q
  | str z hz => exact q_str_bool q
  | lst a r n => exact q_list_bool a q
  | tup a r n => exact q_tuple_bool a q
  | dic a => exact q_dict_bool a q
theorem r_isQ_str (h : Dq H x d) (q : Q (.bl (isStr d)) H) : rIsi K [x, .ty "str"] H Q := by
  cases h with
  | non => exact q_NoneType_str q
  | bl b => exact q_bool_str q
  | int i => exact q_int_str q
  | str z hz => exact q_str_str q
  | lst a r n => exact q_list_str a q
  | tup a r n => exact q_tuple_str a q
  | dic a => exact q_dict_str a q
theorem r_isQ_list (h : Dq H x d) (q : Q (.bl (isList d)) H) : rIsi K [x, .ty "list"] H Q := by
  cases h with
  | non => exact q_NoneType_list q
  | bl b => exact q_bool_list q
  | int i => exact q_int_list q
  | str z hz => exact q_str_list q
  | lst a r n => exact q_list_list a q
  | tup a r n => exact q_tuple_list a q
  | dic a => exact q_dict_list a q
theorem r_isQ_tuple (h : Dq H x d) (q : Q (.bl (isTuple d)) H) : rIsi K [x, .ty "tuple"] H Q := by
  cases h with
  | non => exact q_NoneType_tuple q
  | bl b => exact q_bool_tuple q
  | int i => exact q_int_tuple q
  | str z hz => exact q_str_tuple q
  | lst a r n => exact q_list_tuple a q
  | tup a r n => exact q_tuple_tuple a q
  | dic a => exact q_dict_tuple a q
theorem r_isQ_dict (h : Dq H x d) (q : Q (.bl (isDict d)) H) : rIsi K [x, .ty "dict"] H Q := by
  cases h with
  | non => exact q_NoneType_dict q
  | bl b => exact q_bool_dict q
  | int i => exact q_int_dict q
  | str z hz => exact q_str_dict q
  | lst a r n => exact q_list_dict a q
  | tup a r n => exact q_tuple_dict a q
  | dic a => exact q_dict_dict a q
/-! inversions -/
theorem Dq.list {ds : List PyData} (h : Dq H x (.list ds)) : ∃ a xs, x = .ref a ∧ H a = some (.lst xs) ∧ DqAll H xs ds := by
  cases h with
  | lst a r n => exact ⟨_, _, rfl, a, r⟩
theorem Dq.tuple {ds : List PyData} (h : Dq H x (.tuple ds)) : ∃ a xs, x = .ref a ∧ H a = some (.tup xs) ∧ DqAll H xs ds := by
  cases h with
  | tup a r n => exact ⟨_, _, rfl, a, r⟩
theorem Dq.strV {z : Str} (h : Dq H x (.str z)) : x = .str z := by cases h; rfl
theorem Dq.intV {i : Int} (h : Dq H x (.int i)) : x = .int i := by cases h; rfl
theorem Dq.boolV {b : Bool} (h : Dq H x (.bool b)) : x = .bl b := by cases h; rfl
theorem Dq.noneV (h : Dq H x .none) : x = .non := by cases h; rfl
theorem Dq.split (h : Dq H x d) : (d = .none ∧ x = .non) ∨ (∃ b, d = .bool b ∧ x = .bl b) ∨ (∃ i, d = .int i ∧ x = .int i) ∨ (∃ z, d = .str z ∧ x = .str z ∧ z.length ≤ 1000000) ∨ (∃ a xs ds, d = .list ds ∧ x = .ref a ∧ H a = some (.lst xs) ∧ DqAll H xs ds ∧ xs.length ≤ 1000000) ∨
    (∃ a xs ds, d = .tuple ds ∧ x = .ref a ∧ H a = some (.tup xs) ∧ DqAll H xs ds ∧ xs.length ≤ 1000000) ∨ ∃ a, d = .dict [] ∧ x = .ref a ∧ H a = some (.dK []) := by
  cases h with
  | non => exact .inl ⟨rfl, rfl⟩
  | bl b => exact .inr (.inl ⟨b, rfl, rfl⟩)
  | int i => exact .inr (.inr (.inl ⟨i, rfl, rfl⟩))
  | str z hz => exact .inr (.inr (.inr (.inl ⟨z, rfl, rfl, hz⟩)))
  | lst a r n => exact .inr (.inr (.inr (.inr (.inl ⟨_, _, _, rfl, rfl, a, r, n⟩))))
  | tup a r n => exact .inr (.inr (.inr (.inr (.inr (.inl ⟨_, _, _, rfl, rfl, a, r, n⟩)))))
  | dic a => exact .inr (.inr (.inr (.inr (.inr (.inr ⟨_, rfl, rfl, a⟩)))))
theorem hu1 {u c : Nat} (h : u + 64 < c) : u + 1 < c := by omega
theorem DqAll.cons_inv {ys : List V} {d : PyData} {ds : List PyData} (h : DqAll H ys (d :: ds)) : ∃ v vs, ys = v :: vs ∧ Dq H v d ∧ DqAll H vs ds := by
  cases h with
  | cons a r => exact ⟨_, _, rfl, a, r⟩
theorem DqAll.nil_inv {ys : List V} (h : DqAll H ys []) : ys = [] := by cases h; rfl
end
/-! ### == of such data -/
section
variable {X : Cx} {pins : List (Addr × Obj)} {σ : L2.St} {H : Hp} {s : Shared}
mutual
theorem Dq.reads (I : Inv X pins σ H s) : ∀ (d : PyData) (v : V) (u : Value), Dq H v d → L2.RelV v u → ∃ as, Reads s.heap u d as
  | .none, _, _, h, r => by
    cases h
    cases r
    exact ⟨_, Reads.none⟩
  | .bool b, _, _, h, r => by
    cases h
    cases r
    exact ⟨_, Reads.bool b⟩
  | .int i, _, _, h, r => by
    cases h
    obtain ⟨t, rfl⟩ := r
    exact ⟨_, Reads.int i t⟩
  | .str x, _, _, h, r => by
    cases h
    obtain ⟨t, rfl⟩ := r
    exact ⟨_, Reads.str x t⟩
  | .list ds, _, _, h, r => by
    cases h with
    | lst hs ha _ =>
      cases r
      obtain ⟨its, rv, ⟨o, n, ho, hc, _, hd⟩, _⟩ := I.list (.inl (.inl hs))
      obtain ⟨as, hr⟩ := Dq.readsAll I ds _ its ha rv
      exact ⟨_, Reads.list ho hc hd hr⟩
  | .tuple ds, _, _, h, r => by
    cases h with
    | tup hs ha _ =>
      cases r
      obtain ⟨its, rv, ⟨o, ho, hc, n, hd⟩, _⟩ := I.tuple (.inl (.inl hs))
      obtain ⟨as, hr⟩ := Dq.readsAll I ds _ its ha rv
      exact ⟨_, Reads.tuple ho hc hd hr⟩
  | .dict kvs, _, _, h, r => by
    cases h with
    | @dic a ha =>
      cases r
      have hx : ObjOk X.prog X.w H s.heap a (.dK []) := I.hok a _ ha
      obtain ⟨_, _, vs, rel, dd⟩ := hx
      cases rel
      obtain ⟨o, es, ep, h1, h2, h3, _, h4, _⟩ := dd
      have e0 : es.toList = [] := by
        revert h4
        generalize es.toList = l
        intro h4
        cases h4
        rfl
      exact ⟨_, Reads.dict (kvs := []) (as := []) (bs := []) h1 h2.1 h3 (by rw [e0]; exact ReadsAll.nil) (by rw [e0]; exact ReadsAll.nil)⟩
theorem Dq.readsAll (I : Inv X pins σ H s) : ∀ (ds : List PyData) (vs : List V) (us : List Value), DqAll H vs ds → Vals vs us → ∃ as, ReadsAll s.heap us ds as
  | [], _, _, h, r => by
    cases h
    cases r
    exact ⟨_, ReadsAll.nil⟩
  | d :: ds, _, _, h, r => by
    cases h with
    | cons h1 h2 =>
      cases r with
      | cons r1 r2 =>
        obtain ⟨as, q1⟩ := Dq.reads I d _ _ h1 r1
        obtain ⟨bs, q2⟩ := Dq.readsAll I ds _ _ h2 r2
        exact ⟨_, ReadsAll.cons q1 q2⟩
end
end

section
variable {X : Cx}
def rEqQ : R2 := fun x y H Q => ∃ d e, Dq H x d ∧ Dq H y e ∧ SeqAt.shaped d = true ∧ SeqAt.shaped e = true ∧ Q (.bl (PyData.eqv d e)) H
def rNeQ : R2 := fun x y H Q => ∃ d e, Dq H x d ∧ Dq H y e ∧ SeqAt.shaped d = true ∧ SeqAt.shaped e = true ∧ Q (.bl (!PyData.eqv d e)) H
theorem op_eqQ (hu : X.A.units + 64 < cLine) : OpR X (compareOp .Eq) rEqQ := by
  intro pins s σ H x y v u Q I rx ry h
  obtain ⟨d, e, hd, he, sd, se, q⟩ := h
  obtain ⟨as, r1⟩ := Dq.reads I d x v hd rx
  obtain ⟨bs, r2⟩ := Dq.reads I e y u he ry
  exact SeqAt.compareEq_shaped r1 r2 sd se hu ⟨.bl _, H, I, rfl, q⟩
theorem op_neQ (hu : X.A.units + 64 < cLine) : OpR X (compareOp .NotEq) rNeQ := by
  intro pins s σ H x y v u Q I rx ry h
  obtain ⟨d, e, hd, he, sd, se, q⟩ := h
  obtain ⟨as, r1⟩ := Dq.reads I d x v hd rx
  obtain ⟨bs, r2⟩ := Dq.reads I e y u he ry
  exact SeqAt.compareNe_shaped r1 r2 sd se hu ⟨.bl _, H, I, rfl, q⟩
end
/-! ### sorted of ints, list(range(n)) -/
section
variable {X : Cx}
theorem k_sortI (K : PySem.W.Frag) (hK : X.K = K := by rfl) : CallR X (.builtin "sorted") (rSortedI K) := hK ▸ cr_sortedI
end
section
variable {K : PySem.W.Frag} {H : Hp} {Q : VK} {σ : L2.St} {ta : TE}
theorem r_sortI {a : Addr} {ns : List Int} (h : SqL K H a (ns.map V.int)) (q : ∀ (ns' : List Int) (l : Addr) H', ns'.Perm ns → ns'.Pairwise (· ≤ ·) → H l = none → Same H H' → H' l = some (.lst (ns'.map V.int)) → Q (.ref l) H') : rSortedI K [.ref a] H Q :=
  ⟨a, ns, rfl, h, fun ns' p h1 h2 hp => q ns' p _ h1 h2 hp (Same.new hp) upd_same⟩
theorem r_lrg0 (q : ta σ H fun x H1 => ∃ n, x = .int n ∧ RgOk 0 n ∧ ∀ q, H1 q = none → Q (.ref q) (upd H1 q (.lst (rgV 0 n)))) : tLstRg (tRg1 ta) σ H Q := q
theorem r_lrg1 {n : Int} {R : V → Hp → Prop} (h : RgOk 0 n) (q : ∀ (l : Addr) H', H l = none → Same H H' → H' l = some (.lst (rgV 0 n)) → R (.ref l) H') : RgOk 0 n ∧ ∀ q, H q = none → R (.ref q) (upd H q (.lst (rgV 0 n))) :=
  ⟨h, fun p hp => q p _ hp (Same.new hp) upd_same⟩
end
/-! ### dicts by texts -/
section
variable {K : PySem.W.Frag} {H : Hp} {D : Ends} {σ : L2.St}
theorem r_din {ty td : TE} {Q : VK} (q : ty σ H fun y H1 => td σ H1 fun x H2 => ∃ a o, x = .ref a ∧ DGet H2 a y o ∧ Q (.bl o.isSome) H2) : tDIn ty td σ H Q := q
theorem r_dnotin {ty td : TE} {Q : VK} (q : ty σ H fun y H1 => td σ H1 fun x H2 => ∃ a o, x = .ref a ∧ DGet H2 a y o ∧ Q (.bl (!o.isSome)) H2) : tDNotIn ty td σ H Q := q
theorem r_dput {td ty tv : TE} (q : tv σ H fun v H1 => td σ H1 fun x H2 => ty σ H2 fun y H3 => ∃ a H4, x = .ref a ∧ DPut H3 a y v H4 ∧ D.nx σ H4) : sDPut td ty tv D σ H := q
theorem r_dgetS {td ty : TE} {Q : VK} (q : td σ H fun x H1 => ty σ H1 fun y H2 => ∃ a v, x = .ref a ∧ DGet H2 a y (some v) ∧ Q v H2) : tDGet td ty σ H Q := q
/-- asked for the text z -/
theorem r_dgs {R : Option V → Prop} {a : Addr} {kvs : List (Key × V)} {z : Str} (h : H a = some (.dK kvs)) (q : R (valV kvs (.inr z))) : ∃ b o, V.ref a = .ref b ∧ DGet H b (.str z) o ∧ R o := ⟨a, _, rfl, DGet.k (k := .inr z) h, q⟩
theorem r_dps {a : Addr} {kvs : List (Key × V)} {z : Str} {v : V} (h : H a = some (.dK kvs)) (hl : kvs.length < sizeLine) (q : ∀ H', But a H H' → H' a = some (.dK (putK kvs (.inr z) v)) → D.nx σ H') : ∃ b H4, V.ref a = .ref b ∧ DPut H b (.str z) v H4 ∧ D.nx σ H4 :=
  ⟨a, _, rfl, .inl ⟨kvs, .inr z, h, rfl, hl, rfl⟩, q _ But.upd upd_same⟩
end
theorem dp_ints {K : PySem.W.Frag} {H : Hp} : ∀ ns : List Int, DpAll K H (ns.map V.int) (ns.map PyData.int)
  | [] => .nil
  | n :: ns => .cons (.int n) (dp_ints ns)
theorem eqvL_ints : ∀ (a b : List Int), PyData.eqvAll (a.map PyData.int) (b.map PyData.int) = decide (a = b)
  | [], [] => rfl
  | [], b :: bs => by simp [PyData.eqvAll]
  | a :: as, [] => by simp [PyData.eqvAll]
  | a :: as, b :: bs => by
    have ih := eqvL_ints as bs
    rw [List.map_cons, List.map_cons, PyData.eqvAll, ih, PyData.eqv, Bool.eq_iff_iff]
    simp
theorem eqv_ints (a b : List Int) : PyData.eqv (.list (a.map PyData.int)) (.list (b.map PyData.int)) = decide (a = b) := by
  rw [PyData.eqv]
  exact eqvL_ints a b
theorem shapedL : ∀ ns : List Int, PyData.canLayAll0 (ns.map PyData.int) = true
  | [] => rfl
  | n :: ns => by
    rw [List.map_cons, PyData.canLayAll0, shapedL ns]
    rfl
theorem depthL : ∀ ns : List Int, PyData.depthAll (ns.map PyData.int) = 0
  | [] => rfl
  | n :: ns => by
    rw [List.map_cons, PyData.depthAll, depthL ns, PyData.depth]
    rfl
theorem shaped_ints (ns : List Int) : SeqAt.shaped (.list (ns.map PyData.int)) = true := by
  unfold SeqAt.shaped
  rw [PyData.canLay0, shapedL, PyData.depth, depthL]
  rfl
theorem putLen {κ : Type} [DecidableEq κ] (kvs : List (κ × V)) (k : κ) (v : V) : (putK kvs k v).length ≤ kvs.length + 1 := by
  unfold putK
  split <;> simp
end Z

/-! Zf: more of lists; a dict == a list. -/
namespace PySem.SeqAt
open AutoSeq1 (wpAny_loadPart')
open MeetsSeq
theorem list_eq_declines_dict (l b : Addr) (items : Array Value) (n : Nat) (dd dd2 : Option Addr) (data2 : Data) (sl sl2 : Array (Option Value)) :
    Meets (Builtin.«list.__eq__» ⟨[.ref l, .ref b], []⟩) (fun _ R s => s.heap.get? l = some { cls := .type "list", dict := dd, data := .seq items n, slots := sl } ∧ s.heap.get? b = some { cls := .type "dict", dict := dd2, data := data2, slots := sl2 } ∧ R (.ok (.ret .notImplemented)) s) :=
  .of_wp fun prog w A R s h => by obtain ⟨hp, g, d, tk, os⟩ := s; obtain ⟨hl, hb, h⟩ := h; have f1 := F.sub_dict_list; wp_walk using wpAny_loadPart' hl, wpAny_loadPart' hb; exact ⟨_, rfl, h⟩
section
variable {A : Around} {s : Shared}
theorem RcAt.dict_list {l b : Addr} {items2 : Array Value} (hl : s.TypeIs (.ref l) "dict") (hb : s.heap.IsList b items2) (hu : A.units < cLine) : RcAt A s (.ref l) (.ref b) false := fun prog w E Q h => by
  obtain ⟨⟨cls, dd, data, sl⟩, ho, hc⟩ := id hl
  obtain ⟨⟨cls2, dd2, data2, sl2⟩, ho2, hc2, n2, hd2⟩ := id hb
  simp only at hc hc2 hd2
  subst hc hc2 hd2
  have hne : l ≠ b := fun e => by
    subst e
    rw [ho] at ho2
    exact absurd (congrArg (fun o : Obj => o.cls) (Option.some.inj ho2)) (by simp)
  have tb : s.TypeIs (.ref b) "list" := ⟨_, ho2, rfl⟩
  refine (rc_eq_decline_or (k := false) hl tb (by decide) F.sub_list_dict F.slot_dict_eq F.slot_list_eq_refl
    (fun Q' hq => ?_)
    (fun _ hq => call_meets F.slot_list_eq_refl ⟨_, ho2, rfl⟩ F.entry_list_eq (F.args_list_eq_2 _ _) (list_eq_declines_dict b l items2 n2 dd2 dd data sl2 sl) ⟨ho2, ho, hq⟩)
    (fun _ hq => wpAny_isSame_ref_other' hne ho ho2 (by simp) hq) (.inr hu) h)
  refine wpAny_call_entry F.slot_dict_eq hl F.entry_dict_eq ?_ (F.args_dict_eq_2 _ _)
  show wpAny _ _ (Builtin.Dict.dictSlotArgs "__eq__" ⟨[.ref l, .ref b], []⟩ >>= _) _ _ s
  refine wpAny_bind ?_
  unfold Builtin.Dict.dictSlotArgs
  refine wpAny_bind (wpAny_notOrdered_dict hl ?_)
  show wpAny _ _ (pure (Value.ref l, Value.ref b)) _ _ s
  refine wpAny_pure ?_
  refine wpAny_bind (wpAny_isInstance (T := "list") tb F.sub_list_dict ?_)
  simp only [Bool.not_false, if_true]
  wp_walk
  exact ⟨_, rfl, hq⟩
end
end PySem.SeqAt
namespace Z
open PySem PySem.Spec PyProof.Rows L2
section
variable {X : Cx}
def rEqDL : R2 := fun x y H Q => ∃ a b kvs ys, x = .ref a ∧ y = .ref b ∧ H a = some (.dK kvs) ∧ H b = some (.lst ys) ∧ Q (.bl false) H
theorem op_eqDL (hu : X.A.units + 64 < cLine) : OpR X (compareOp .Eq) rEqDL := by
  intro pins s σ H x y v u Q I rx ry h
  obtain ⟨a, b, kvs, ys, rfl, rfl, ha, hb, q⟩ := h
  cases rx
  cases ry
  have hx : ObjOk X.prog X.w H s.heap a (.dK kvs) := I.hok a _ ha
  obtain ⟨_, _, vs, rel, dd⟩ := hx
  obtain ⟨its, rv, pl, _⟩ := I.list (.inl (.inl hb))
  exact SeqAt.RcAt.dict_list dd.typeIs pl.isList (by omega) X.prog X.w _ _ ⟨.bl false, H, I, rfl, q⟩
def rEqX (K : PySem.W.Frag) : R2 := fun x y H Q => rEqP K x y H Q ∨ rEqDL x y H Q
theorem k_eqX (K : PySem.W.Frag) (hu : X.A.units + 64 < cLine) (hK : X.K = K := by rfl) : OpR X (compareOp .Eq) (rEqX K) := hK ▸ OpR.or (op_eqP hu) (op_eqDL hu)
theorem k_index (K : PySem.W.Frag) (hK : X.K = K := by rfl) : MtR X "list.index" (rIndex K) := hK ▸ mt_index
def cTup (K : PySem.W.Frag) : List V → Hp → VK → Prop := fun xs H Q => ∃ p ys, xs = [.ref p] ∧ ((SqL K H p ys ∧ ∀ l, H l = none → Q (.ref l) (upd H l (.tup ys))) ∨ (SqT K H p ys ∧ Q (.ref p) H))
theorem k_tuple (K : PySem.W.Frag) (hK : X.K = K := by rfl) : CallR X (.type "tuple") (cTup K) := hK ▸ call_tuple_of
end
section
variable {K : PySem.W.Frag} {H : Hp} {Q : VK}
theorem r_eqXd {x y : V} {d e : PyData} (hd : Dp K H x d) (he : Dp K H y e) (q : Q (.bl (PyData.eqv d e)) H) (h1 : SeqAt.shaped d = true) (h2 : SeqAt.shaped e = true) : rEqX K x y H Q := .inl (.inr ⟨d, e, hd, he, h1, h2, q⟩)
theorem r_eqXl {a b : Addr} {kvs : List (Key × V)} {ys : List V} (ha : H a = some (.dK kvs)) (hb : H b = some (.lst ys)) (q : Q (.bl false) H) : rEqX K (.ref a) (.ref b) H Q := .inr ⟨a, b, kvs, ys, rfl, rfl, ha, hb, q⟩
theorem r_tupL {p : Addr} {xs : List V} (h : SqL K H p xs) (q : ∀ l H', H l = none → Same H H' → H' l = some (.tup xs) → Q (.ref l) H') : cTup K [.ref p] H Q := ⟨p, xs, rfl, .inl ⟨h, fun l hl => q l _ hl (Same.new hl) upd_same⟩⟩
theorem r_popAt {l : Addr} {xs : List V} {n : Nat} {y : V} (h : H l = some (.lst xs)) (hn : n < 2 ^ 62) (hy : xs[n]? = some y) (q : ∀ H', But l H H' → H' l = some (.lst (xs.eraseIdx n)) → Q y H') : rPopAt (.ref l) [.int (n : Int)] H Q := by
  have h1 : n < xs.length := (List.getElem?_eq_some_iff.mp hy).1
  have e : ixN xs.length (n : Int) = some n := by
    unfold ixN
    rw [if_pos (by omega), if_pos (by omega)]
    rfl
  exact ⟨l, xs, n, n, y, rfl, rfl, h, by omega, by omega, (ixN_seq e).1, hy, q _ But.upd upd_same⟩
theorem r_clear {l : Addr} {xs : List V} (h : H l = some (.lst xs)) (q : ∀ H', But l H H' → H' l = some (.lst []) → Q .non H') : rClear (.ref l) [] H Q := ⟨l, xs, rfl, rfl, h, q _ But.upd upd_same⟩
theorem nd_inj {α : Type} {l : List α} (nd : l.Nodup) {i j : Nat} (hi : i < l.length) (hj : j < l.length) (e : l[i] = l[j]) : i = j := by
  have h := List.pairwise_iff_getElem.mp nd
  rcases Nat.lt_trichotomy i j with q | q | q
  · exact absurd e (h i j hi hj q)
  · exact q
  · exact absurd e.symm (h j i hj hi q)
/-- the place of a number in a list of numbers, each once -/
theorem r_indexN {a : Addr} {js : List Nat} {j : Nat} (h : SqL K H a (js.map fun n : Nat => V.int (n : Int))) (nd : js.Nodup) (hj : j < js.length) (q : Q (.int (j : Nat)) H) : rIndex K (.ref a) [.int (js[j] : Nat)] H Q := by
  refine ⟨a, _, _, j, .int (js[j] : Nat), rfl, rfl, h, rfl, ?_, ?_, ?_, ?_, q⟩
  · rw [List.all_map]
    exact List.all_eq_true.mpr fun _ _ => rfl
  · rw [List.getElem?_map, List.getElem?_eq_getElem hj]
    rfl
  · simp [eqV]
  · intro m z' hm hz
    rw [List.getElem?_map, List.getElem?_eq_getElem (by omega)] at hz
    cases hz
    have : js[m] ≠ js[j] := fun e => by
      have := nd_inj nd (by omega) hj e
      omega
    simp [eqV]
    omega
/-- a list so many times -/
theorem r_rep {l : Addr} {xs : List V} {n : Nat} (h : H l = some (.lst xs)) (hz : xs.length * n ≤ 16777216) (hn : n < 2 ^ 62) (q : ∀ p H', H p = none → Same H H' → H' p = some (.lst (List.replicate n xs).flatten) → Q (.ref p) H') : rMulP (.ref l) (.int (n : Int)) H Q := by
  refine .inr ⟨l, n, xs, rfl, rfl, h, by omega, by omega, ?_, fun p hp => ?_⟩
  · rw [show (n : Int).toNat = n by omega]
    exact szl hz
  · rw [show (n : Int).toNat = n by omega]
    exact q p _ hp (Same.new hp) upd_same
end
/-! ### the heap without one -/
section
variable {H H' : Hp} {l a : Addr} {o : HO}
theorem del_sub : Same (L2.del H l) H := fun b o e => by
  by_cases hb : b = l
  · rw [hb, del_same] at e
    cases e
  · rwa [del_ne hb] at e
theorem delS (h : Same H H') : Same (L2.del H l) (L2.del H' l) := fun b o e => by
  by_cases hb : b = l
  · rw [hb, del_same] at e
    cases e
  · rw [del_ne hb] at e ⊢
    exact h _ _ e
theorem delB (h : But l H H') : Same (L2.del H l) (L2.del H' l) := fun b o e => by
  by_cases hb : b = l
  · rw [hb, del_same] at e
    cases e
  · rw [del_ne hb] at e ⊢
    exact h _ _ hb e
theorem delG (h : H a = some o) (n : a ≠ l) : L2.del H l a = some o := by rw [del_ne n]; exact h
end
theorem at_in {xs : List V} {z : Int} (h0 : 0 ≤ z) (h1 : z < xs.length) : ∃ v, atI xs z = some v ∧ v ∈ xs := by
  obtain ⟨j, rfl⟩ : ∃ j : Nat, z = j := ⟨z.toNat, by omega⟩
  have hj : j < xs.length := by omega
  exact ⟨xs[j], atI_nat (List.getElem?_eq_getElem hj), List.getElem_mem hj⟩
/-! ### slices -/
theorem cut_from (xs : List V) (k : Nat) : cutV xs (some (k : Int)) none = xs.drop k := by
  unfold cutV
  rw [HT.sIx_nat, HT.sIx_none]
  by_cases h : k ≤ xs.length
  · rw [Nat.min_eq_left h, List.take_of_length_le]
    rw [List.length_drop]
    exact Nat.le_refl _
  · rw [Nat.min_eq_right (by omega), List.drop_of_length_le (Nat.le_refl _), List.drop_of_length_le (by omega), List.take_nil]
theorem cut_to (xs : List V) (k : Nat) : cutV xs none (some (k : Int)) = xs.take k := by
  unfold cutV
  rw [HT.sIx_nat, HT.sIx_none, List.drop_zero, Nat.sub_zero]
  by_cases h : k ≤ xs.length
  · rw [Nat.min_eq_left h]
  · rw [Nat.min_eq_right (by omega), List.take_of_length_le (Nat.le_refl _), List.take_of_length_le (by omega)]
theorem cut_neg1 (xs : List V) : cutV xs none (some (-1)) = xs.dropLast := by
  unfold cutV
  have e : HT.sIx xs.length xs.length (some (-1)) = xs.length - 1 := by
    show (if (-1 : Int) < 0 then ((-1 : Int) + (xs.length : Int)).toNat else min (-1 : Int).toNat xs.length) = _
    rw [if_pos (by decide)]
    omega
  rw [e, HT.sIx_none, List.drop_zero, Nat.sub_zero, List.dropLast_eq_take]
theorem at_neg1 {xs : List V} {v : V} (h : xs.getLast? = some v) : atI xs (-1) = some v := by
  unfold atI ixN
  have hn : xs ≠ [] := fun e => by
    rw [e] at h
    cases h
  have hl : 0 < xs.length := List.length_pos_iff.mpr hn
  rw [if_neg (by decide), if_pos (by omega), Option.bind_some]
  rw [List.getLast?_eq_getElem?] at h
  rw [show ((-1 : Int) + (xs.length : Int)).toNat = xs.length - 1 by omega]
  exact h
theorem DqAll.at {H : Hp} {xs : List V} {ds : List PyData} (h : DqAll H xs ds) {z : Int} (h0 : 0 ≤ z) (h1 : z < xs.length) : ∃ v d, atI xs z = some v ∧ Dq H v d ∧ d ∈ ds := by
  obtain ⟨j, rfl⟩ : ∃ j : Nat, z = j := ⟨z.toNat, by omega⟩
  have hj : j < xs.length := by omega
  have hj2 : j < ds.length := by rw [← h.length]; exact hj
  exact ⟨xs[j], ds[j], atI_nat (List.getElem?_eq_getElem hj), h.get j hj hj2, List.getElem_mem hj2⟩
/-! ### data without dicts: as Dp -/
mutual
theorem Dq.dp {K : PySem.W.Frag} {H : Hp} : ∀ {v : V} {d : PyData}, Dq H v d → PyData.canLay0 d = true → Dp K H v d
  | _, _, .non, _ => .non
  | _, _, .bl b, _ => .bl b
  | _, _, .int i, _ => .int i
  | _, _, .str x _, _ => .str x
  | _, _, .lst h r _, c => .lst (sqL h) (DqAll.dp r c)
  | _, _, .tup h r _, c => .tup (sqT h) (DqAll.dp r c)
  | _, _, .dic _, c => nomatch c
theorem DqAll.dp {K : PySem.W.Frag} {H : Hp} : ∀ {vs : List V} {ds : List PyData}, DqAll H vs ds → PyData.canLayAll0 ds = true → DpAll K H vs ds
  | _, _, .nil, _ => .nil
  | _, _, .cons h r, c => by
    rw [PyData.canLayAll0, Bool.and_eq_true_iff] at c
    exact .cons (Dq.dp h c.1) (DqAll.dp r c.2)
end
theorem shaped_lay {d : PyData} (h : SeqAt.shaped d = true) : PyData.canLay0 d = true := (Bool.and_eq_true_iff.mp h).1
theorem r_xf0 {a C : Addr} {cls : Value} {d : Option Addr} {f : Str} {te : TE} {σ : L2.St} {H : Hp} {Q : VK} (q : te σ H fun x H1 => x = .ref a ∧ cls = .ref C ∧ ∃ (dd : Addr) (fs : List (Str × V)) (v : V), d = some dd ∧ H1 dd = some (.xd fs) ∧ fs.lookup f = some v ∧ Q v H1) : tXf a cls d C f te σ H Q := q
theorem r_indexI {K : PySem.W.Frag} {H : Hp} {Q : VK} {a : Addr} {js : List Nat} {j n : Nat} (h : SqL K H a (js.map fun n : Nat => V.int (n : Int))) (nd : js.Nodup) (hj : j < js.length) (e : js[j] = n) (q : Q (.int (j : Nat)) H) : rIndex K (.ref a) [.int (n : Int)] H Q := by
  subst e
  exact r_indexN h nd hj q
/-- a slice of whole numbers -/
theorem cut_ints (ns : List Int) (lo hi : Option Int) : ∃ cs : List Int, cutV (ns.map V.int) lo hi = cs.map V.int ∧ cs.length ≤ ns.length := by
  unfold cutV
  refine ⟨(ns.drop (HT.sIx (ns.map V.int).length 0 lo)).take (HT.sIx (ns.map V.int).length (ns.map V.int).length hi - HT.sIx (ns.map V.int).length 0 lo), ?_, ?_⟩
  · rw [List.map_take, List.map_drop]
  · rw [List.length_take, List.length_drop]
    omega
end Z

/-! the mathematics of fractions written and read -/
namespace M
open PySem L2 TL SX

/-- the codes of a whole number -/
def intL (n : Int) : List Nat := if n < 0 then 45 :: numL n.natAbs else numL n.natAbs
theorem int_S' (n : Int) : Str.ofString (toString n) = S (intL n) := by
  unfold intL
  cases n with
  | ofNat m =>
    rw [if_neg (by have : (0 : Int) ≤ Int.ofNat m := Int.natCast_nonneg m; omega)]
    exact num_S m
  | negSucc m =>
    rw [if_pos (Int.negSucc_lt_zero m)]
    refine ext_tl ?_
    have e : toString (Int.negSucc m) = "-" ++ toString (m + 1) := rfl
    rw [e, tl_ofString]
    have h2 := tl_num (m + 1)
    have e2 : toString (((m + 1 : Nat) : Int)) = toString (m + 1) := rfl
    rw [e2, tl_ofString] at h2
    rw [String.toList_append, List.map_append, h2]
    rfl
/-- a fraction's codes -/
def fracL (n : Int) (d : Nat) : List Nat := if d = 1 then intL n else intL n ++ 47 :: numL d

def digit (c : Nat) : Bool := decide (48 ≤ c ∧ c ≤ 57)
/-- the number that codes write, at most m of them, no nought ahead -/
def wholeIn (l : List Nat) (m : Nat) : Option Nat := if 1 ≤ l.length ∧ l.length ≤ m ∧ ¬ (1 < l.length ∧ l.head? = some 48) ∧ l.all digit = true then some (NumText.digitsVal l) else none
theorem fig_mem (c : Nat) : decide (c ∈ (Str.ofString "0123456789").cps.toList) = digit c := by
  have e : (Str.ofString "0123456789").cps.toList = [48, 49, 50, 51, 52, 53, 54, 55, 56, 57] := by decide +kernel
  rw [e]
  unfold digit
  rw [decide_eq_decide]
  simp only [List.mem_cons, List.not_mem_nil, or_false]
  omega
theorem numL_head : ∀ (n : Nat), 10 ≤ n → (numL n).head? ≠ some 48 := by
  intro n
  induction n using Nat.strongRecOn with
  | _ n ih =>
    intro h
    rw [numL_step h]
    by_cases h2 : n / 10 < 10
    · rw [numL_lt h2]
      intro z
      have : 48 + n / 10 = 48 := Option.some.inj z
      omega
    · intro z
      refine ih (n / 10) (by omega) (by omega) ?_
      cases e : numL (n / 10) with
      | nil => exact absurd e (numL_ne _)
      | cons a r =>
        rw [e] at z
        exact z
theorem numL_all (n : Nat) : (numL n).all digit = true := by
  rw [List.all_eq_true]
  intro c hc
  have := numL_digits n c hc
  exact decide_eq_true this
theorem wholeIn_num {n m : Nat} (h : (numL n).length ≤ m) : wholeIn (numL n) m = some n := by
  unfold wholeIn
  rw [if_pos, numL_val]
  refine ⟨?_, h, ?_, numL_all n⟩
  · cases e : numL n with
    | nil => exact absurd e (numL_ne _)
    | cons a r => simp
  · rintro ⟨h1, h2⟩
    by_cases h3 : n < 10
    · rw [numL_lt h3] at h1
      simp at h1
    · exact numL_head n (by omega) h2
def sgn (neg : Bool) (a : Nat) : Int := if neg then -(a : Int) else a
/-- the fraction that codes write -/
def fracOf (neg : Bool) (nums : List (Option Nat)) : Option (Int × Nat) := match nums with
  | [some a] => if neg = true ∧ a = 0 then none else some (sgn neg a, 1)
  | [some a, some b] => if b < 2 ∨ neg = true ∧ a = 0 then none else if Nat.gcd b a = 1 then some (sgn neg a, b) else none
  | _ => none
def isNeg (l : List Nat) : Bool := decide (l.head? = some 45)
def figs (l : List Nat) : List Nat := if isNeg l = true then l.tail else l
def numsIn (l : List Nat) (m : Nat) : List (Option Nat) := (spl [47] 0 [] (figs l)).map fun p => wholeIn p m
def fracIn (l : List Nat) (m : Nat) : Option (Int × Nat) := fracOf (isNeg l) (numsIn l m)
theorem intL_neg (n : Int) : isNeg (intL n) = decide (n < 0) := by
  unfold isNeg intL
  rw [decide_eq_decide]
  by_cases h : n < 0
  · rw [if_pos h]
    simp [h]
  · rw [if_neg h]
    constructor
    · intro z
      have hm : 45 ∈ numL n.natAbs := by
        cases e : numL n.natAbs with
        | nil =>
          rw [e] at z
          cases z
        | cons a r =>
          rw [e] at z
          have : a = 45 := Option.some.inj z
          rw [this]
          exact List.mem_cons_self
      exact absurd hm (numL_free (by omega))
    · intro z
      exact absurd z h
theorem intL_figs (n : Int) : figs (intL n) = numL n.natAbs := by
  unfold figs
  rw [intL_neg]
  unfold intL
  by_cases h : n < 0
  · rw [if_pos (decide_eq_true h), if_pos h]
    rfl
  · rw [if_neg (by simpa using h), if_neg h]
theorem isNeg_app {l r : List Nat} (h : l ≠ []) : isNeg (l ++ r) = isNeg l := by
  cases l with
  | nil => exact absurd rfl h
  | cons a l => rfl
theorem figs_app {l r : List Nat} (h : l ≠ []) : figs (l ++ r) = figs l ++ r := by
  unfold figs
  rw [isNeg_app h]
  by_cases c : isNeg l = true
  · rw [if_pos c, if_pos c]
    cases l with
    | nil => exact absurd rfl h
    | cons a l => rfl
  · rw [if_neg c, if_neg c]
theorem intL_ne (n : Int) : intL n ≠ [] := by
  unfold intL
  split
  · simp
  · exact numL_ne _
theorem sgn_abs (n : Int) : sgn (decide (n < 0)) n.natAbs = n := by
  unfold sgn
  by_cases h : n < 0
  · rw [if_pos (decide_eq_true h)]
    omega
  · rw [if_neg (by simpa using h)]
    omega
/-- what is written is read -/
theorem frac_back {n : Int} {d m : Nat} (hn : (numL n.natAbs).length ≤ m) (hd : (numL d).length ≤ m) (h0 : 0 < d) (hg : Nat.gcd d n.natAbs = 1) : fracIn (fracL n d) m = some (n, d) := by
  unfold fracIn fracL numsIn
  by_cases h1 : d = 1
  · rw [if_pos h1, intL_neg, intL_figs, spl_last1 (numL_free (by omega))]
    show fracOf _ [wholeIn ([] ++ numL n.natAbs) m] = _
    rw [List.nil_append, wholeIn_num hn]
    show (if _ then _ else _) = _
    rw [if_neg, sgn_abs, h1]
    rintro ⟨a, b⟩
    have := of_decide_eq_true a
    omega
  · rw [if_neg h1, isNeg_app (intL_ne n), intL_neg, figs_app (intL_ne n), intL_figs]
    have e : spl [47] 0 [] (numL n.natAbs ++ 47 :: numL d) = [numL n.natAbs, numL d] := by
      have a := spl_part1 (s := 47) (S := []) (p := numL n.natAbs) (rest := numL d) (acc := []) (numL_free (by omega))
      rw [spl_last1 (numL_free (by omega))] at a
      simpa using a
    rw [e]
    show fracOf _ [wholeIn (numL n.natAbs) m, wholeIn (numL d) m] = _
    rw [wholeIn_num hn, wholeIn_num hd]
    show (if _ then _ else _) = _
    rw [if_neg, if_pos hg, sgn_abs]
    rintro (a | ⟨a, b⟩)
    · omega
    · have := of_decide_eq_true a
      omega
theorem len60 {n : Nat} (h : n < 10 ^ 60) : (numL n).length ≤ 60 := numL_len (by decide) h
/-! the greatest common divisor, by steps -/
theorem gcd_step {x y : Nat} (h : 0 < y) : Nat.gcd y (x % y) = Nat.gcd x y := by
  rw [Nat.gcd_comm x y, Nat.gcd_rec y x, Nat.gcd_comm]
theorem lowest_gcd {t b : Nat} (h : 0 < b) : Nat.gcd (b / Nat.gcd t b) (t / Nat.gcd t b) = 1 := by
  have g0 : 0 < Nat.gcd t b := Nat.gcd_pos_of_pos_right _ h
  have h2 := Nat.gcd_div (Nat.gcd_dvd_right t b) (Nat.gcd_dvd_left t b)
  rw [Nat.gcd_comm b t, Nat.div_self g0] at h2
  exact h2
/-! figures, from the end -/
theorem fig_at {d : Nat} (h : d < 10) : atI (Str.ofString "0123456789").cps.toList (d : Int) = some (48 + d) := by
  have e : (Str.ofString "0123456789").cps.toList = [48, 49, 50, 51, 52, 53, 54, 55, 56, 57] := by decide +kernel
  rw [e]
  refine atI_nat ?_
  match d, h with
  | 0, _ => rfl
  | 1, _ => rfl
  | 2, _ => rfl
  | 3, _ => rfl
  | 4, _ => rfl
  | 5, _ => rfl
  | 6, _ => rfl
  | 7, _ => rfl
  | 8, _ => rfl
  | 9, _ => rfl
/-- texts by codes -/
theorem S_app (a b : List Nat) : S a ++ S b = S (a ++ b) := ext_tl (by rw [tl_append])
theorem S_len (a : List Nat) : (S a).length = a.length := by
  show a.toArray.size = a.length
  simp
theorem S_inj {a b : List Nat} (h : S a = S b) : a = b := by
  have := congrArg tl h
  exact this
theorem S_tl (z : Str) : z = S (tl z) := (mk_tl z).symm
end M

/-! orders: the mathematics -/
namespace M
open PySem L2 Z
def intOf : PyData → Int
  | .int i => i
  | _ => 0
/-- each number below m, once -/
def ordL (m : Nat) (ns : List Int) : Bool := decide (ns.length = m) && (List.range m).all fun j : Nat => decide ((j : Int) ∈ ns)
def rgL (m : Nat) : List Int := (List.range m).map fun j : Nat => (j : Int)
theorem rgL_nodup (m : Nat) : (rgL m).Nodup := by
  unfold rgL
  refine List.Pairwise.map _ (fun a b h e => h (Int.ofNat.inj e)) List.nodup_range
theorem rgL_sorted (m : Nat) : (rgL m).Pairwise (· ≤ ·) := by
  unfold rgL
  refine List.Pairwise.map _ (fun a b h => ?_) List.pairwise_lt_range
  omega
theorem sorted_eq : ∀ {l r : List Int}, l.Perm r → l.Pairwise (· ≤ ·) → r.Pairwise (· ≤ ·) → l = r
  | [], r, p, _, _ => (List.nil_perm.mp p).symm
  | a :: l, [], p, _, _ => absurd p.symm (by simp)
  | a :: l, b :: r, p, h1, h2 => by
    have ha : a ∈ b :: r := p.mem_iff.mp List.mem_cons_self
    have hb : b ∈ a :: l := p.mem_iff.mpr List.mem_cons_self
    have e : a = b := by
      rw [List.pairwise_cons] at h1 h2
      rcases List.mem_cons.mp ha with rfl | ha
      · rfl
      · rcases List.mem_cons.mp hb with rfl | hb
        · rfl
        · have := h1.1 b hb
          have := h2.1 a ha
          omega
    subst e
    rw [sorted_eq (List.Perm.cons_inv p) (List.pairwise_cons.mp h1).2 (List.pairwise_cons.mp h2).2]
theorem perm_sub : ∀ {r l : List Int}, r.Nodup → (∀ z ∈ r, z ∈ l) → l.length ≤ r.length → l.Perm r
  | [], l, _, _, h => by
    have : l = [] := List.length_eq_zero_iff.mp (by simpa using h)
    rw [this]
  | a :: r, l, hn, hs, h => by
    have ha : a ∈ l := hs a List.mem_cons_self
    obtain ⟨h1, h2⟩ := List.nodup_cons.mp hn
    have p := List.perm_cons_erase ha
    have hl := p.length_eq
    rw [List.length_cons] at hl h
    refine p.trans (List.Perm.cons a (perm_sub h2 (fun z hz => ?_) (by omega)))
    have hza : z ≠ a := fun e => h1 (e ▸ hz)
    exact (List.mem_erase_of_ne hza).mpr (hs z (List.mem_cons_of_mem _ hz))
theorem ord_perm {m : Nat} {ns : List Int} (h : ordL m ns = true) : ns.Perm (rgL m) := by
  obtain ⟨h1, h2⟩ := Bool.and_eq_true_iff.mp h
  have hl : ns.length = m := of_decide_eq_true h1
  refine perm_sub (rgL_nodup m) (fun z hz => ?_) ?_
  · unfold rgL at hz
    obtain ⟨j, hj, rfl⟩ := List.mem_map.mp hz
    exact of_decide_eq_true (List.all_eq_true.mp h2 j hj)
  · unfold rgL
    rw [List.length_map, List.length_range, hl]
    exact Nat.le_refl _
theorem perm_ord {m : Nat} {ns : List Int} (h : ns.Perm (rgL m)) : ordL m ns = true := by
  have hl := h.length_eq
  unfold rgL at hl
  rw [List.length_map, List.length_range] at hl
  unfold ordL
  rw [decide_eq_true hl, Bool.true_and, List.all_eq_true]
  intro j hj
  refine decide_eq_true (h.mem_iff.mpr ?_)
  unfold rgL
  exact List.mem_map.mpr ⟨j, hj, rfl⟩
/-- what sorted tells -/
theorem ord_sorted {m : Nat} {ns ns' : List Int} (p : ns'.Perm ns) (s : ns'.Pairwise (· ≤ ·)) : decide (ns' = rgL m) = ordL m ns := by
  rw [Bool.eq_iff_iff, decide_eq_true_iff]
  constructor
  · intro e
    exact perm_ord ((e ▸ p.symm) : ns.Perm (rgL m))
  · intro h
    exact sorted_eq (p.trans (ord_perm h)) s (rgL_sorted m)
theorem rgV_eq (m : Nat) : rgV 0 (m : Int) = (rgL m).map V.int := by
  unfold rgV rgL
  rw [List.map_map]
  have e : ((m : Int) - 0).toNat = m := by omega
  rw [e]
  refine List.map_congr_left fun j _ => ?_
  show V.int (0 + (j : Int)) = V.int (j : Int)
  rw [Int.zero_add]
end M

/-! orders as lists of Nat; things put by an order -/
namespace M
open PySem L2 Z
def ofN (js : List Nat) : List Int := js.map fun j : Nat => (j : Int)
def vsN (js : List Nat) : List V := js.map fun j : Nat => V.int (j : Int)
theorem vsN_ofN (js : List Nat) : (ofN js).map V.int = vsN js := by
  unfold ofN vsN
  rw [List.map_map]
  rfl
theorem ord_nat {m : Nat} {ns : List Int} (h : ordL m ns = true) : ∃ js : List Nat, ns = ofN js ∧ js.Perm (List.range m) := by
  have p := ord_perm h
  refine ⟨ns.map Int.toNat, ?_, ?_⟩
  · unfold ofN
    rw [List.map_map]
    refine (List.map_id ns).symm.trans (List.map_congr_left fun z hz => ?_)
    have hz2 := p.mem_iff.mp hz
    unfold rgL at hz2
    obtain ⟨j, _, rfl⟩ := List.mem_map.mp hz2
    show (j : Int) = ((j : Int).toNat : Int)
    omega
  · have q := p.map Int.toNat
    unfold rgL at q
    rw [List.map_map] at q
    have e : (Int.toNat ∘ fun j : Nat => (j : Int)) = id := by
      funext j
      simp
    rw [e, List.map_id] at q
    exact q
theorem nat_ord {m : Nat} {js : List Nat} (h : js.Perm (List.range m)) : ordL m (ofN js) = true := perm_ord (h.map _)
theorem perm_sub' {α : Type} [DecidableEq α] : ∀ {r l : List α}, r.Nodup → (∀ z ∈ r, z ∈ l) → l.length ≤ r.length → l.Perm r
  | [], l, _, _, h => by
    have : l = [] := List.length_eq_zero_iff.mp (by simpa using h)
    rw [this]
  | a :: r, l, hn, hs, h => by
    have ha : a ∈ l := hs a List.mem_cons_self
    obtain ⟨h1, h2⟩ := List.nodup_cons.mp hn
    have p := List.perm_cons_erase ha
    have hl := p.length_eq
    rw [List.length_cons] at hl h
    refine p.trans (List.Perm.cons a (perm_sub' h2 (fun z hz => ?_) (by omega)))
    have hza : z ≠ a := fun e => h1 (e ▸ hz)
    exact (List.mem_erase_of_ne hza).mpr (hs z (List.mem_cons_of_mem _ hz))
section
variable {m : Nat} {js : List Nat} (p : js.Perm (List.range m))
include p
theorem pr_len : js.length = m := by rw [p.length_eq, List.length_range]
theorem pr_nd : js.Nodup := p.nodup_iff.mpr List.nodup_range
theorem pr_lt {j : Nat} (h : j ∈ js) : j < m := List.mem_range.mp (p.mem_iff.mp h)
theorem pr_mem {j : Nat} (h : j < m) : j ∈ js := p.mem_iff.mpr (List.mem_range.mpr h)
end
/-- i things put -/
def putN (xs : List V) (js : List Nat) : Nat → List V
  | 0 => xs
  | i + 1 => (putN xs js i).set (js.getD i 0) (xs.getD i .non)
theorem putN_len (xs : List V) (js : List Nat) : ∀ i, (putN xs js i).length = xs.length
  | 0 => rfl
  | i + 1 => by rw [putN, List.length_set, putN_len xs js i]
theorem putN_get {xs : List V} {js : List Nat} (nd : js.Nodup) (hb : ∀ j ∈ js, j < xs.length) (hl : js.length ≤ xs.length) : ∀ i, i ≤ js.length → ∀ k, (hk : k < i) → (h2 : k < js.length) → (putN xs js i)[js[k]]? = xs[k]?
  | 0, _, k, hk, _ => absurd hk (Nat.not_lt_zero _)
  | i + 1, hi, k, hk, h2 => by
    have e : js.getD i 0 = js[i] := by
      rw [List.getD_eq_getElem?_getD, List.getElem?_eq_getElem (by omega)]
      rfl
    rw [putN, e]
    by_cases hki : k = i
    · subst hki
      have h3 := hb js[k] (List.getElem_mem h2)
      rw [List.getElem?_set_self (by rw [putN_len]; exact h3), List.getD_eq_getElem?_getD, List.getElem?_eq_getElem (by omega)]
      rfl
    · have hne : js[i] ≠ js[k] := fun e => hki (nd_inj nd (by omega) h2 e).symm
      rw [List.getElem?_set_ne hne]
      exact putN_get nd hb hl i (by omega) k (by omega) h2
/-- all put -/
def putJ (xs : List V) (js : List Nat) : List V := putN xs js js.length
theorem putJ_len (xs : List V) (js : List Nat) : (putJ xs js).length = xs.length := putN_len xs js _
theorem putJ_get {xs : List V} {js : List Nat} (p : js.Perm (List.range xs.length)) (k : Nat) (hk : k < js.length) : (putJ xs js)[js[k]]? = xs[k]? := putN_get (pr_nd p) (fun j hj => pr_lt p hj) (by rw [pr_len p]; exact Nat.le_refl _) _ (Nat.le_refl _) k hk hk
theorem put_back {xs : List V} {js : List Nat} (p : js.Perm (List.range xs.length)) : (js.map fun j => (putJ xs js).getD j .non) = xs := by
  refine List.ext_getElem? fun i => ?_
  rw [List.getElem?_map]
  have hl := pr_len p
  by_cases hi : i < js.length
  · rw [List.getElem?_eq_getElem hi, Option.map_some, List.getD_eq_getElem?_getD, putJ_get p i hi, List.getElem?_eq_getElem (by omega)]
    rfl
  · rw [List.getElem?_eq_none (by omega), List.getElem?_eq_none (by omega)]
    rfl
/-- the order's other way about -/
def invJ (js : List Nat) : List Nat := (List.range js.length).map fun q => js.idxOf q
theorem invJ_len (js : List Nat) : (invJ js).length = js.length := by
  unfold invJ
  rw [List.length_map, List.length_range]
section
variable {m : Nat} {js : List Nat} (p : js.Perm (List.range m))
include p
theorem inv_at {q : Nat} (h : q < m) : ∃ h1 : js.idxOf q < js.length, js[js.idxOf q] = q := ⟨List.idxOf_lt_length_of_mem (pr_mem p h), List.getElem_idxOf (List.idxOf_lt_length_of_mem (pr_mem p h))⟩
theorem inv_perm : (invJ js).Perm (List.range m) := by
  have hl := pr_len p
  refine (perm_sub' (r := invJ js) (l := List.range m) ?_ ?_ ?_).symm
  · unfold invJ
    rw [hl]
    refine List.Pairwise.map (R := fun a b => a ∈ List.range m ∧ b ∈ List.range m ∧ a ≠ b) _ (fun a b h e => ?_) ?_
    · obtain ⟨ha, hb, hn⟩ := h
      obtain ⟨a1, a2⟩ := inv_at p (List.mem_range.mp ha)
      obtain ⟨b1, b2⟩ := inv_at p (List.mem_range.mp hb)
      apply hn
      rw [← a2, ← b2]
      have e2 : js.idxOf a = js.idxOf b := e
      exact getElem_congr_idx e2
    · refine List.Pairwise.imp_of_mem (R := (· ≠ ·)) (fun ha hb h => ⟨ha, hb, h⟩) ?_
      exact List.nodup_range
  · intro z hz
    unfold invJ at hz
    obtain ⟨q, hq, rfl⟩ := List.mem_map.mp hz
    rw [List.mem_range] at hq ⊢
    obtain ⟨h1, _⟩ := inv_at p (q := q) (by omega)
    omega
  · rw [invJ_len, List.length_range, hl]
    exact Nat.le_refl _
end
theorem put_inv {xs : List V} {js : List Nat} (p : js.Perm (List.range xs.length)) : putJ (putJ xs js) (invJ js) = xs := by
  have hl := pr_len p
  have pi : (invJ js).Perm (List.range (putJ xs js).length) := by
    rw [putJ_len]
    exact inv_perm p
  refine List.ext_getElem? fun i => ?_
  by_cases hi : i < xs.length
  · -- i = inv[k] with k = js[i]
    have hi2 : i < js.length := by omega
    have hk : js[i] < xs.length := pr_lt p (List.getElem_mem hi2)
    have hk2 : js[i] < (invJ js).length := by rw [invJ_len]; omega
    have e : (invJ js)[js[i]] = i := by
      have : (invJ js)[js[i]] = js.idxOf js[i] := by
        have e : (invJ js)[js[i]]? = some (js.idxOf js[i]) := by
          unfold invJ
          rw [List.getElem?_map, List.getElem?_range (by omega)]
          rfl
        rw [List.getElem?_eq_getElem hk2] at e
        exact Option.some.inj e
      rw [this]
      obtain ⟨h1, h2⟩ := inv_at p hk
      exact nd_inj (pr_nd p) h1 hi2 h2
    have g := putJ_get pi js[i] hk2
    rw [e, putJ_get p i hi2] at g
    exact g
  · rw [List.getElem?_eq_none (by rw [putJ_len, putJ_len]; omega), List.getElem?_eq_none (by omega)]
end M

section
end
open L2 (Same Dp DpAll)
local macro_rules | `(tactic| walk_at "szs") => `(tactic| first | (simp only [List.length_cons, List.length_nil, List.length_append, List.length_map, List.length_take, List.length_drop, List.length_set, Z.len_empty, Z.len_app] <;> omega) | omega | (simp [Z.len_app, M.S_len, PyProof.Rows.ofString_length] <;> omega))
local macro_rules | `(tactic| walk_at "fn") => `(tactic| first | assumption | (refine Z.fr (by assumption) ?_; walk_at "sm"))
local macro_rules | `(tactic| walk_at "sm") => `(tactic| first
  | assumption
  | exact Same.refl _
  | (refine Z.Same.tr (by assumption) ?_; walk_at "sm")
  | (refine Z.Same.but (by assumption) ?_ ?_; (walk_at "fn"); walk_at "sm"))
local macro_rules | `(tactic| walk_at "bt") => `(tactic| first
  | assumption
  | (refine Z.But.tr (by assumption) ?_; walk_at "bt")
  | (refine Z.But.but (by assumption) ?_; walk_at "bt")
  | (refine Z.But.but2 (by assumption) ?_ ?_; (walk_at "fn"); walk_at "bt")
  | (refine Z.But.of ?_; walk_at "sm"))
local macro_rules | `(tactic| walk_at "ne") => `(tactic| first
  | assumption
  | (refine Ne.symm ?_; assumption)
  | (refine Z.ne1 (o := ?o) (by assumption) ?h; (case h => walk_at "lk"))
  | (refine Ne.symm (Z.ne1 (o := ?o) (by assumption) ?h); (case h => walk_at "lk")))
local macro_rules | `(tactic| walk_at "lk") => `(tactic| first
  | assumption
  | with_reducible exact Dp.int _
  | with_reducible exact Dp.str _
  | with_reducible exact Dp.bl _
  | with_reducible exact Dp.non
  | with_reducible exact DpAll.nil
  | ((with_reducible refine Z.up (by assumption) ?_); walk_at "lk")
  | ((with_reducible refine Z.upB (by assumption) ?_ ?_); (walk_at "ne"); walk_at "lk")
  | ((with_reducible refine Z.sqL ?_); walk_at "lk")
  | ((with_reducible refine Z.sqT ?_); walk_at "lk")
  | ((with_reducible refine Z.upL (by assumption) ?_); walk_at "lk")
  | ((with_reducible refine Z.upT (by assumption) ?_); walk_at "lk")
  | ((with_reducible refine Z.upLB (by assumption) ?_ ?_); (walk_at "ne"); walk_at "lk")
  | ((with_reducible refine Z.upTB (by assumption) ?_ ?_); (walk_at "ne"); walk_at "lk")
  | ((with_reducible refine Z.Dq.up (by assumption) ?_); walk_at "lk")
  | ((with_reducible refine Z.DqAll.up (by assumption) ?_); walk_at "lk")
  | ((with_reducible refine Z.dpUp (by assumption) ?_); walk_at "lk")
  | ((with_reducible refine Z.dpsUp (by assumption) ?_); walk_at "lk")
  | ((with_reducible refine DpAll.cons ?_ ?_); (walk_at "lk"); walk_at "lk")
  | ((with_reducible refine Dp.tup (xs := ?xs) ?h1 ?h2); (case h1 => walk_at "lk"); (case h2 => walk_at "lk"))
  | ((with_reducible refine Dp.lst (xs := ?xs) ?h1 ?h2); (case h1 => walk_at "lk"); (case h2 => walk_at "lk")))
local macro_rules | `(tactic| walk_at "sd") => `(tactic| first
  | rfl
  | assumption
  | omega
  | decide
  | decide +kernel
  | exact Z.szl (by walk_at "szs")
  | exact Z.szlt (by walk_at "szs")
  | exact Or.inl ⟨by omega, by omega⟩
  | exact Or.inl (Or.inl ⟨by omega, by omega⟩)
  | exact Or.inl (Or.inr ⟨by omega, by omega⟩)
  | exact ⟨by omega, by omega⟩
  | exact ⟨by omega, by omega, by omega⟩)
local macro_rules | `(tactic| walk_at "rg") => `(tactic| first
  | exact ⟨by omega, by omega⟩
  | exact ⟨by omega, by omega, by omega, by omega⟩
  | decide)
local macro_rules | `(tactic| walk_at "isi") => `(tactic| first
  | with_reducible refine Z.q_int_int ?_
  | with_reducible refine Z.q_int_bool ?_
  | with_reducible refine Z.q_int_str ?_
  | with_reducible refine Z.q_int_list ?_
  | with_reducible refine Z.q_int_tuple ?_
  | with_reducible refine Z.q_int_dict ?_
  | with_reducible refine Z.q_bool_int ?_
  | with_reducible refine Z.q_bool_bool ?_
  | with_reducible refine Z.q_bool_str ?_
  | with_reducible refine Z.q_bool_list ?_
  | with_reducible refine Z.q_bool_tuple ?_
  | with_reducible refine Z.q_bool_dict ?_
  | with_reducible refine Z.q_str_int ?_
  | with_reducible refine Z.q_str_bool ?_
  | with_reducible refine Z.q_str_str ?_
  | with_reducible refine Z.q_str_list ?_
  | with_reducible refine Z.q_str_tuple ?_
  | with_reducible refine Z.q_str_dict ?_
  | with_reducible refine Z.q_NoneType_int ?_
  | with_reducible refine Z.q_NoneType_bool ?_
  | with_reducible refine Z.q_NoneType_str ?_
  | with_reducible refine Z.q_NoneType_list ?_
  | with_reducible refine Z.q_NoneType_tuple ?_
  | with_reducible refine Z.q_NoneType_dict ?_
  | ((with_reducible refine Z.q_list_int (xs := ?xs) ?h ?_); (case h => walk_at "lk"))
  | ((with_reducible refine Z.q_list_bool (xs := ?xs) ?h ?_); (case h => walk_at "lk"))
  | ((with_reducible refine Z.q_list_str (xs := ?xs) ?h ?_); (case h => walk_at "lk"))
  | ((with_reducible refine Z.q_list_list (xs := ?xs) ?h ?_); (case h => walk_at "lk"))
  | ((with_reducible refine Z.q_list_tuple (xs := ?xs) ?h ?_); (case h => walk_at "lk"))
  | ((with_reducible refine Z.q_list_dict (xs := ?xs) ?h ?_); (case h => walk_at "lk"))
  | ((with_reducible refine Z.q_tuple_int (xs := ?xs) ?h ?_); (case h => walk_at "lk"))
  | ((with_reducible refine Z.q_tuple_bool (xs := ?xs) ?h ?_); (case h => walk_at "lk"))
  | ((with_reducible refine Z.q_tuple_str (xs := ?xs) ?h ?_); (case h => walk_at "lk"))
  | ((with_reducible refine Z.q_tuple_list (xs := ?xs) ?h ?_); (case h => walk_at "lk"))
  | ((with_reducible refine Z.q_tuple_tuple (xs := ?xs) ?h ?_); (case h => walk_at "lk"))
  | ((with_reducible refine Z.q_tuple_dict (xs := ?xs) ?h ?_); (case h => walk_at "lk"))
  | ((with_reducible refine Z.q_dict_int (xs := ?xs) ?h ?_); (case h => walk_at "lk"))
  | ((with_reducible refine Z.q_dict_bool (xs := ?xs) ?h ?_); (case h => walk_at "lk"))
  | ((with_reducible refine Z.q_dict_str (xs := ?xs) ?h ?_); (case h => walk_at "lk"))
  | ((with_reducible refine Z.q_dict_list (xs := ?xs) ?h ?_); (case h => walk_at "lk"))
  | ((with_reducible refine Z.q_dict_tuple (xs := ?xs) ?h ?_); (case h => walk_at "lk"))
  | ((with_reducible refine Z.q_dict_dict (xs := ?xs) ?h ?_); (case h => walk_at "lk"))
  | ((with_reducible refine Z.r_isQ_int (d := ?d) ?h ?_); (case h => walk_at "lk"))
  | ((with_reducible refine Z.r_isQ_bool (d := ?d) ?h ?_); (case h => walk_at "lk"))
  | ((with_reducible refine Z.r_isQ_str (d := ?d) ?h ?_); (case h => walk_at "lk"))
  | ((with_reducible refine Z.r_isQ_list (d := ?d) ?h ?_); (case h => walk_at "lk"))
  | ((with_reducible refine Z.r_isQ_tuple (d := ?d) ?h ?_); (case h => walk_at "lk"))
  | ((with_reducible refine Z.r_isQ_dict (d := ?d) ?h ?_); (case h => walk_at "lk")))
local macro_rules | `(tactic| walk_at "tr") => `(tactic| (set_option pp.maxSteps 1500 in trace_state))
local macro_rules | `(tactic| walk_at "st") => `(tactic| try dsimp only [cxOf, Cx.wish])
local macro_rules | `(tactic| walk_at "rd1") => `(tactic| first
  | with_reducible refine Z.v0 ?_
  | with_reducible refine Z.v1 ?_
  | with_reducible refine Z.v2 ?_
  | with_reducible refine Z.v3 ?_
  | with_reducible refine Z.v4 ?_
  | with_reducible refine Z.v5 ?_
  | with_reducible refine Z.v6 ?_
  | with_reducible refine Z.v7 ?_
  | with_reducible refine Z.v8 ?_
  | with_reducible refine Z.v9 ?_
  | with_reducible refine Z.v10 ?_
  | with_reducible refine Z.v11 ?_
  | with_reducible refine Z.v12 ?_
  | with_reducible refine Z.v13 ?_
  | with_reducible refine Z.v14 ?_
  | with_reducible refine Z.r_c ?_
  | with_reducible refine Z.r_op ?_
  | with_reducible refine Z.r_seq ?_
  | with_reducible refine Z.r_asg ?_
  | with_reducible refine Z.n0 ?_
  | with_reducible refine Z.n1 ?_
  | with_reducible refine Z.n2 ?_
  | with_reducible refine Z.n3 ?_
  | with_reducible refine Z.n4 ?_
  | with_reducible refine Z.n5 ?_
  | with_reducible refine Z.n6 ?_
  | with_reducible refine Z.n7 ?_
  | with_reducible refine Z.n8 ?_
  | with_reducible refine Z.n9 ?_
  | with_reducible refine Z.n10 ?_
  | with_reducible refine Z.n11 ?_
  | with_reducible refine Z.n12 ?_
  | with_reducible refine Z.n13 ?_
  | with_reducible refine Z.n14 ?_
  | with_reducible refine Z.r_cons ?_
  | with_reducible refine Z.r_nil ?_
  | with_reducible refine Z.r_CB ?_
  | with_reducible refine Z.r_call ?_
  | with_reducible refine Z.r_ret ?_
  | with_reducible refine Z.r_ifS ?_
  | with_reducible refine Z.r_test ?_
  | with_reducible refine Z.r_tB ?_
  | with_reducible refine Z.r_exB ?_
  | with_reducible refine Z.r_exI ?_
  | with_reducible refine Z.r_T ?_
  | with_reducible refine Z.r_F ?_
  | with_reducible refine Z.r_nT ?_
  | with_reducible refine Z.r_nF ?_
  | with_reducible refine Z.r_addI ?_
  | with_reducible refine Z.r_sub ?_
  | ((with_reducible refine Z.r_mulI ?_ ?h); (case h => walk_at "sd"))
  | ((with_reducible refine Z.r_mod ?_ ?h); (case h => walk_at "sd"))
  | ((with_reducible refine Z.r_div ?_ ?h); (case h => walk_at "sd"))
  | with_reducible refine Z.p10_6 ?_
  | with_reducible refine Z.p10_8 ?_
  | with_reducible refine Z.p10_9 ?_
  | with_reducible refine Z.p10_18 ?_
  | ((with_reducible refine Z.r_pow ?_ ?h); (case h => walk_at "sd"))
  | ((with_reducible refine Z.r_addS ?_ ?h); (case h => walk_at "sd"))
  | ((with_reducible refine Z.r_addL (xs := ?xs) (ys := ?ys) ?h1 ?h2 ?_ ?h); (case h1 => walk_at "lk"); (case h2 => walk_at "lk"); (case h => walk_at "sd"))
  | with_reducible refine Z.r_eqI ?_
  | with_reducible refine Z.r_neI ?_
  | with_reducible refine Z.r_eqS ?_
  | with_reducible refine Z.r_neS ?_
  | ((with_reducible refine Z.r_eq ?_ ?h); (case h => rfl))
  | ((with_reducible refine Z.r_ne ?_ ?h); (case h => rfl))
  | with_reducible refine Z.r_lt ?_
  | with_reducible refine Z.r_le ?_
  | with_reducible refine Z.r_gt ?_
  | with_reducible refine Z.r_ge ?_
  | with_reducible refine Z.r_isN ?_
  | ((with_reducible refine Z.r_strN ?_ ?h); (case h => walk_at "sd"))
  | with_reducible refine Z.r_din ?_
  | with_reducible refine Z.r_dnotin ?_
  | with_reducible refine Z.r_dput ?_
  | with_reducible refine Z.r_dgetS ?_
  | ((with_reducible refine Z.r_dgs (kvs := ?kvs) ?h ?_); (case h => walk_at "lk"))
  | ((with_reducible refine Z.r_dps (kvs := ?kvs) ?h ?h2 ?_); (case h => walk_at "lk"); (case h2 => walk_at "sd"))
  | with_reducible refine Z.r_lrg0 ?_
  | ((with_reducible refine Z.r_sortI (ns := ?ns) ?h ?_); (case h => walk_at "lk"))
  | with_reducible refine Z.r_veI ?_
  | with_reducible refine Z.r_dnewK ?_
  | with_reducible refine Z.r_xv0 ?_
  | with_reducible refine Z.r_xf0 ?_
  | ((with_reducible refine Z.r_mulS ?_ ?h); (case h => exact ⟨by decide +kernel, fun _ _ => by decide +kernel, fun _ _ => by decide +kernel⟩))
  | with_reducible refine Z.r_ost ?_
  | with_reducible refine Z.r_raiO ?_
  | with_reducible refine Z.r_raiN ?_
  | with_reducible refine Z.r_ce ?_
  | with_reducible refine Z.r_fmtN ?_
  | with_reducible refine Z.r_isI ?_
  | with_reducible refine Z.r_isS ?_
  | with_reducible refine Z.r_isR ?_
  | with_reducible refine Z.r_isB ?_
  | with_reducible refine Z.r_notN ?_
  | with_reducible refine Z.r_notI ?_
  | with_reducible refine Z.r_notS ?_
  | with_reducible refine Z.r_notR ?_
  | with_reducible refine Z.r_inT ?_
  | with_reducible refine Z.r_notInT ?_
  | ((with_reducible refine Z.r_inL (xs := ?xs) ?h1 ?_ ?h2 ?h3); (case h1 => walk_at "lk"); (case h2 => rfl); (case h3 => first | rfl | assumption))
  | ((with_reducible refine Z.r_notInL (xs := ?xs) ?h1 ?_ ?h2 ?h3); (case h1 => walk_at "lk"); (case h2 => rfl); (case h3 => first | rfl | assumption))
  | ((with_reducible refine Z.r_ixL (xs := ?xs) (v := ?v) ?h1 ?h2 ?_); (case h1 => walk_at "lk"); (case h2 => first | rfl | assumption))
  | ((with_reducible refine Z.r_ixT (xs := ?xs) (v := ?v) ?h1 ?h2 ?_); (case h1 => walk_at "lk"); (case h2 => first | rfl | assumption))
  | ((with_reducible refine Z.r_lenL (xs := ?xs) ?h1 ?_); (case h1 => walk_at "lk"))
  | ((with_reducible refine Z.r_lenT (xs := ?xs) ?h1 ?_); (case h1 => walk_at "lk"))
  | ((with_reducible refine Z.r_lenS ?_ ?h1); (case h1 => walk_at "sd"))
  | with_reducible refine Z.r_abs ?_
  | with_reducible refine Z.r_max ?_
  | with_reducible refine Z.r_min ?_
  | ((with_reducible refine Z.r_strI ?_ ?h1); (case h1 => walk_at "sd"))
  | ((with_reducible refine Z.r_listL (xs := ?xs) ?h1 ?_); (case h1 => walk_at "lk"))
  | ((with_reducible refine Z.r_listT (xs := ?xs) ?h1 ?_); (case h1 => walk_at "lk"))
  | ((with_reducible refine Z.r_isiHd ?_); walk_at "isi")
  | with_reducible refine Z.r_tup ?_
  | with_reducible refine Z.r_lst ?_
  | ((with_reducible refine Z.r_newT ?_ ?h); (case h => walk_at "sd"))
  | ((with_reducible refine Z.r_newL ?_ ?h); (case h => walk_at "sd"))
  | with_reducible refine Z.r_sl ?_
  | with_reducible refine Z.r_part ?_
  | with_reducible refine Z.r_noPart ?_
  | ((with_reducible refine Z.r_slL (xs := ?xs) ?h1 ?_); (case h1 => walk_at "lk"))
  | ((with_reducible refine Z.r_slS ?_ ?h1); (case h1 => walk_at "sd"))
  | with_reducible refine Z.r_un ?_
  | with_reducible refine Z.r_U ?_
  | with_reducible refine Z.r_BM ?_
  | with_reducible refine Z.r_BM0 ?_
  | with_reducible refine Z.r_tyS ?_
  | ((with_reducible refine Z.r_tyL (xs := ?xs) ?h ?_); (case h => walk_at "lk"))
  | ((with_reducible refine Z.r_appendQ (xs := ?xs) ?h ?_ ?h2); (case h => walk_at "lk"); (case h2 => walk_at "sd"))
  | ((with_reducible refine Z.r_split ?_ ?h ?h2); (case h => first | rfl | decide +kernel); (case h2 => walk_at "sd"))
  | with_reducible refine Z.r_subTg ?_
  | ((with_reducible refine Z.r_setL (xs := ?xs) (n := ?n) ?h ?h2 ?_); (case h => walk_at "lk"); (case h2 => first | rfl | assumption))
  | with_reducible refine Z.r_fmt ?_
  | ((with_reducible refine Z.r_fmtI ?_ ?h); (case h => walk_at "sd"))
  | ((with_reducible refine Z.r_fmtS ?_ ?h); (case h => walk_at "sd"))
  | with_reducible refine Z.r_js0 ?_
  | with_reducible refine Z.r_js ?_
  | ((with_reducible refine Z.r_jsS ?_ ?h); (case h => walk_at "sd"))
  | with_reducible refine Z.r_and ?_
  | with_reducible refine Z.r_or ?_
  | with_reducible refine Z.r_not ?_
  | with_reducible refine Z.r_andV ?_
  | with_reducible refine Z.r_orV ?_
  | with_reducible refine Z.r_notV ?_
  | with_reducible refine Z.r_chain ?_
  | with_reducible refine Z.r_ifE ?_
  | with_reducible refine Z.r_next ?_
  | with_reducible refine Z.r_par ?_
  | with_reducible refine Z.r_par2 ?_
  | with_reducible refine Z.r_drop ?_
  | with_reducible refine Z.r_retN ?_
  | with_reducible refine Z.r_brk ?_
  | with_reducible refine Z.r_cnt ?_
  | ((with_reducible refine Z.r_tg (xs := ?xs) ?h ?_ ?h2); (case h => walk_at "lk"); (case h2 => rfl))
  | with_reducible refine Z.r_gcons ?_
  | with_reducible refine Z.r_gnil ?_
  | ((with_reducible refine Z.r_aug (i := ?i) ?h ?_); (case h => exact rfl))
  | with_reducible refine Z.r_for ?_
  | with_reducible refine Z.r_lc ?_
  | with_reducible refine Z.i_L ?_
  | with_reducible refine Z.i_T ?_
  | with_reducible refine Z.i_S ?_
  | with_reducible refine Z.i_R1 ?_
  | with_reducible refine Z.i_R2 ?_
  | with_reducible refine Z.i_E ?_
  | with_reducible refine Z.i_Z ?_
  | ((with_reducible refine Z.s_L (xs := ?xs) ?h1 ?_); (case h1 => walk_at "lk"))
  | ((with_reducible refine Z.s_T (xs := ?xs) ?h1 ?_); (case h1 => walk_at "lk"))
  | with_reducible refine Z.s_S ?_
  | ((with_reducible refine Z.s_R1 ?_ ?h1); (case h1 => walk_at "rg"))
  | ((with_reducible refine Z.s_R2 ?_ ?h1); (case h1 => walk_at "rg"))
  | ((with_reducible refine Z.s_E (xs := ?xs) ?h1 ?_); (case h1 => walk_at "lk"))
  | ((with_reducible refine Z.s_Z (xs := ?xs) (ys := ?ys) ?h1 ?h2 ?_); (case h1 => walk_at "lk"); (case h2 => walk_at "lk"))
  | with_reducible refine Z.r_yes ?_
  | ((with_reducible refine Z.r_wipe ?h ?_); (case h => rfl)))
local macro_rules | `(tactic| walk_at "rd") => `(tactic| repeat (walk_at "rd1"))
local macro_rules | `(tactic| walk_at "mn") => `(tactic| repeat (first
  | exact Z.m_var | exact Z.m_c | exact Z.m_gt | exact Z.m_lt | exact Z.m_ge | exact Z.m_le | exact Z.m_eqP | exact Z.m_neP
  | refine Z.m_test ?_ | refine Z.m_op ?_ ?_ ?_ | refine Z.m_or ?_ ?_ | refine Z.m_and ?_ ?_))

namespace My
open PySem PySem.Spec PyProof.Rows L2 Z M SX TL
def top (i : Nat) : Stmt := PySem.Challenge.pw_dearsigns_k58_orders_of_things.main.body.getD i (.Pass ⟨0, 0, 0, 0⟩)
abbrev s_is_whole : Stmt := top 19
abbrev s_is_name : Stmt := top 20
abbrev s_is_want : Stmt := top 24
abbrev s_look_at_wants : Stmt := top 25
abbrev s_look_at_order : Stmt := top 27
abbrev s_put_so : Stmt := top 28
abbrev s_put_wants : Stmt := top 29
abbrev s_put_book : Stmt := top 30
abbrev s_law_cell : Stmt := top 32
abbrev s_law_draws : Stmt := top 33
abbrev s_law_low : Stmt := top 34
abbrev s_law_wants : Stmt := top 35
abbrev s_law_is_no_turn : Stmt := top 36
abbrev s_law_order : Stmt := top 37
abbrev s_law_no_order : Stmt := top 38
abbrev s_law_refused : Stmt := top 39
abbrev s_law_no_wants : Stmt := top 40
abbrev s_law_number : Stmt := top 41
abbrev s_law : Stmt := top 42
theorem sc_is_whole : FnScope ["thing"] ["thing"] (defScope s_is_whole) := ⟨rfl, rfl, rfl, by decide +kernel, rfl, by decide +kernel, by decide +kernel⟩
theorem sc_is_name : FnScope ["thing", "sign"] ["thing"] (defScope s_is_name) := ⟨rfl, rfl, rfl, by decide +kernel, rfl, by decide +kernel, by decide +kernel⟩
theorem sc_is_want : FnScope ["thing"] ["thing"] (defScope s_is_want) := ⟨rfl, rfl, rfl, by decide +kernel, rfl, by decide +kernel, by decide +kernel⟩
theorem sc_look_at_wants : FnScope ["thing", "names", "number", "want"] ["thing"] (defScope s_look_at_wants) := ⟨rfl, rfl, rfl, by decide +kernel, rfl, by decide +kernel, by decide +kernel⟩
theorem sc_look_at_order : FnScope ["many", "order", "one"] ["many", "order"] (defScope s_look_at_order) := ⟨rfl, rfl, rfl, by decide +kernel, rfl, by decide +kernel, by decide +kernel⟩
theorem sc_put_so : FnScope ["some", "order", "found", "k", "place"] ["some", "order"] (defScope s_put_so) := ⟨rfl, rfl, rfl, by decide +kernel, rfl, by decide +kernel, by decide +kernel⟩
theorem sc_put_wants : FnScope ["wants", "order"] ["wants", "order"] (defScope s_put_wants) := ⟨rfl, rfl, rfl, by decide +kernel, rfl, by decide +kernel, by decide +kernel⟩
theorem sc_put_book : FnScope ["book", "order"] ["book", "order"] (defScope s_put_book) := ⟨rfl, rfl, rfl, by decide +kernel, rfl, by decide +kernel, by decide +kernel⟩
theorem sc_law_cell : FnScope ["_law_script", "_law_k"] ["_law_script", "_law_k"] (defScope s_law_cell) := ⟨rfl, rfl, rfl, by decide +kernel, rfl, by decide +kernel, by decide +kernel⟩
theorem sc_law_draws : FnScope ["_law_cell_here", "_law_k", "_law_sizes", "_law_number_here", "_law_great", "_law_mixed", "_law_found", "_law_turn", "_law_size"] ["_law_cell_here", "_law_k", "_law_sizes"] (defScope s_law_draws) := ⟨rfl, rfl, rfl, by decide +kernel, rfl, by decide +kernel, by decide +kernel⟩
theorem sc_law_low : FnScope ["_law_top", "_law_bottom", "_law_one", "_law_other"] ["_law_top", "_law_bottom"] (defScope s_law_low) := ⟨rfl, rfl, rfl, by decide +kernel, rfl, by decide +kernel, by decide +kernel⟩
theorem sc_law_wants : FnScope ["_law_script", "_law_at", "_law_many", "_law_row", "_law_letters", "_law_wants_here", "_law_k", "_law_count", "_law_name"] ["_law_script", "_law_at", "_law_many"] (defScope s_law_wants) := ⟨rfl, rfl, rfl, by decide +kernel, rfl, by decide +kernel, by decide +kernel⟩
theorem sc_law_is_no_turn : FnScope ["_law_kept", "_law_others"] ["_law_kept"] (defScope s_law_is_no_turn) := ⟨rfl, rfl, rfl, by decide +kernel, rfl, by decide +kernel, by decide +kernel⟩
theorem sc_law_order : FnScope ["_law_cell_here", "_law_k", "_law_many", "_law_left", "_law_found", "_law_place", "_law_j"] ["_law_cell_here", "_law_k", "_law_many"] (defScope s_law_order) := ⟨rfl, rfl, rfl, by decide +kernel, rfl, by decide +kernel, by decide +kernel⟩
theorem sc_law_no_order : FnScope ["_law_order_here", "_law_cell_here", "_law_k", "_law_some", "_law_thing", "_law_place", "_law_one"] ["_law_order_here", "_law_cell_here", "_law_k"] (defScope s_law_no_order) := ⟨rfl, rfl, rfl, by decide +kernel, rfl, by decide +kernel, by decide +kernel⟩
theorem sc_law_refused : FnScope ["_law_things", "_law_thing", "_law_way", "_law_kept", "e"] ["_law_things", "_law_thing", "_law_way"] (defScope s_law_refused) := ⟨rfl, rfl, rfl, by decide +kernel, rfl, by decide +kernel, by decide +kernel⟩
theorem sc_law_no_wants : FnScope ["_law_wants_here", "_law_name", "_law_count", "_law_some"] ["_law_wants_here"] (defScope s_law_no_wants) := ⟨rfl, rfl, rfl, by decide +kernel, rfl, by decide +kernel, by decide +kernel⟩
theorem sc_law_number : FnScope ["_law_thing", "_law_order_here", "_law_kept", "e"] ["_law_thing", "_law_order_here"] (defScope s_law_number) := ⟨rfl, rfl, rfl, by decide +kernel, rfl, by decide +kernel, by decide +kernel⟩
theorem sc_law : FnScope ["_law_script", "_law_wants_here", "_law_k", "_law_texts", "_law_kept", "_law_cell_here", "_law_order_here", "_law_told", "_law_book", "_law_other", "_law_odd", "_law_thing", "_law_number_here", "_law_place"] ["_law_script"] (defScope s_law) := ⟨rfl, rfl, rfl, by decide +kernel, rfl, by decide +kernel, by decide +kernel⟩
theorem st_is_whole {a0 : V} : start ["thing"] [a0] = [some a0] := rfl
theorem st_is_name {a0 : V} : start ["thing", "sign"] [a0] = [some a0, none] := rfl
theorem st_is_want {a0 : V} : start ["thing"] [a0] = [some a0] := rfl
theorem st_look_at_wants {a0 : V} : start ["thing", "names", "number", "want"] [a0] = [some a0, none, none, none] := rfl
theorem st_look_at_order {a0 a1 : V} : start ["many", "order", "one"] [a0, a1] = [some a0, some a1, none] := rfl
theorem st_put_so {a0 a1 : V} : start ["some", "order", "found", "k", "place"] [a0, a1] = [some a0, some a1, none, none, none] := rfl
theorem st_put_wants {a0 a1 : V} : start ["wants", "order"] [a0, a1] = [some a0, some a1] := rfl
theorem st_put_book {a0 a1 : V} : start ["book", "order"] [a0, a1] = [some a0, some a1] := rfl
theorem st_law_cell {a0 a1 : V} : start ["_law_script", "_law_k"] [a0, a1] = [some a0, some a1] := rfl
theorem st_law_draws {a0 a1 a2 : V} : start ["_law_cell_here", "_law_k", "_law_sizes", "_law_number_here", "_law_great", "_law_mixed", "_law_found", "_law_turn", "_law_size"] [a0, a1, a2] = [some a0, some a1, some a2, none, none, none, none, none, none] := rfl
theorem st_law_low {a0 a1 : V} : start ["_law_top", "_law_bottom", "_law_one", "_law_other"] [a0, a1] = [some a0, some a1, none, none] := rfl
theorem st_law_wants {a0 a1 a2 : V} : start ["_law_script", "_law_at", "_law_many", "_law_row", "_law_letters", "_law_wants_here", "_law_k", "_law_count", "_law_name"] [a0, a1, a2] = [some a0, some a1, some a2, none, none, none, none, none, none] := rfl
theorem st_law_is_no_turn {a0 : V} : start ["_law_kept", "_law_others"] [a0] = [some a0, none] := rfl
theorem st_law_order {a0 a1 a2 : V} : start ["_law_cell_here", "_law_k", "_law_many", "_law_left", "_law_found", "_law_place", "_law_j"] [a0, a1, a2] = [some a0, some a1, some a2, none, none, none, none] := rfl
theorem st_law_no_order {a0 a1 a2 : V} : start ["_law_order_here", "_law_cell_here", "_law_k", "_law_some", "_law_thing", "_law_place", "_law_one"] [a0, a1, a2] = [some a0, some a1, some a2, none, none, none, none] := rfl
theorem st_law_refused {a0 a1 a2 : V} : start ["_law_things", "_law_thing", "_law_way", "_law_kept", "e"] [a0, a1, a2] = [some a0, some a1, some a2, none, none] := rfl
theorem st_law_no_wants {a0 : V} : start ["_law_wants_here", "_law_name", "_law_count", "_law_some"] [a0] = [some a0, none, none, none] := rfl
theorem st_law_number {a0 a1 : V} : start ["_law_thing", "_law_order_here", "_law_kept", "e"] [a0, a1] = [some a0, some a1, none, none] := rfl
theorem st_law {a0 : V} : start ["_law_script", "_law_wants_here", "_law_k", "_law_texts", "_law_kept", "_law_cell_here", "_law_order_here", "_law_told", "_law_book", "_law_other", "_law_odd", "_law_thing", "_law_number_here", "_law_place"] [a0] = [some a0, none, none, none, none, none, none, none, none, none, none, none, none, none] := rfl
abbrev si_NoTongue : Stmt := (Z.clsB (top 11)).getD 0 (.Pass ⟨0, 0, 0, 0⟩)
theorem sti_NoTongue {a0 a1 : V} : start ["self", "part"] [a0, a1] = [some a0, some a1] := rfl
theorem sci_NoTongue : FnScope ["self", "part"] ["self", "part"] (defScope si_NoTongue) := ⟨rfl, rfl, rfl, by decide +kernel, rfl, by decide +kernel, by decide +kernel⟩
abbrev si_NoWants : Stmt := (Z.clsB (top 12)).getD 0 (.Pass ⟨0, 0, 0, 0⟩)
theorem sti_NoWants {a0 a1 : V} : start ["self", "number"] [a0, a1] = [some a0, some a1] := rfl
theorem sci_NoWants : FnScope ["self", "number"] ["self", "number"] (defScope si_NoWants) := ⟨rfl, rfl, rfl, by decide +kernel, rfl, by decide +kernel, by decide +kernel⟩
abbrev si_NoThing : Stmt := (Z.clsB (top 13)).getD 0 (.Pass ⟨0, 0, 0, 0⟩)
theorem sti_NoThing {a0 a1 : V} : start ["self", "place"] [a0, a1] = [some a0, some a1] := rfl
theorem sci_NoThing : FnScope ["self", "place"] ["self", "place"] (defScope si_NoThing) := ⟨rfl, rfl, rfl, by decide +kernel, rfl, by decide +kernel, by decide +kernel⟩
abbrev si_BadSign : Stmt := (Z.clsB (top 14)).getD 0 (.Pass ⟨0, 0, 0, 0⟩)
theorem sti_BadSign {a0 a1 : V} : start ["self", "place"] [a0, a1] = [some a0, some a1] := rfl
theorem sci_BadSign : FnScope ["self", "place"] ["self", "place"] (defScope si_BadSign) := ⟨rfl, rfl, rfl, by decide +kernel, rfl, by decide +kernel, by decide +kernel⟩
abbrev si_NoText : Stmt := (Z.clsB (top 15)).getD 0 (.Pass ⟨0, 0, 0, 0⟩)
theorem sti_NoText {a0 a1 : V} : start ["self", "row"] [a0, a1] = [some a0, some a1] := rfl
theorem sci_NoText : FnScope ["self", "row"] ["self", "row"] (defScope si_NoText) := ⟨rfl, rfl, rfl, by decide +kernel, rfl, by decide +kernel, by decide +kernel⟩
abbrev ecs : List Str := ["DearError", "NoNumber", "NoBook", "NoTree", "TooMany", "NoCount", "NoUndo", "NoTurn", "NoRow", "Unknown", "NoTongue", "NoWants", "NoThing", "BadSign", "NoText"]
abbrev ems : List (Str × Str) := [("NoTongue", "part"), ("NoWants", "number"), ("NoThing", "place"), ("BadSign", "place"), ("NoText", "row")]
abbrev ens : List Str := ["NoNumber", "NoBook", "NoTree", "TooMany", "NoCount", "NoUndo", "NoTurn", "NoRow", "Unknown"]
structure Txt (K : PySem.W.Frag) (mg : Str → Option Value) : Prop where
  ex : Z.Exs K mg "DearError" ecs ems ens
  i_NoTongue : Z.AtM K ("NoTongue", some "__init__") "__init__" "NoTongue.__init__" si_NoTongue
  i_NoWants : Z.AtM K ("NoWants", some "__init__") "__init__" "NoWants.__init__" si_NoWants
  i_NoThing : Z.AtM K ("NoThing", some "__init__") "__init__" "NoThing.__init__" si_NoThing
  i_BadSign : Z.AtM K ("BadSign", some "__init__") "__init__" "BadSign.__init__" si_BadSign
  i_NoText : Z.AtM K ("NoText", some "__init__") "__init__" "NoText.__init__" si_NoText
  d_is_whole : Z.At K mg "is_whole" "is_whole" s_is_whole []
  d_is_name : Z.At K mg "is_name" "is_name" s_is_name []
  d_is_want : Z.At K mg "is_want" "is_want" s_is_want []
  d_look_at_wants : Z.At K mg "look_at_wants" "look_at_wants" s_look_at_wants []
  d_look_at_order : Z.At K mg "look_at_order" "look_at_order" s_look_at_order []
  d_put_so : Z.At K mg "put_so" "put_so" s_put_so []
  d_put_wants : Z.At K mg "put_wants" "put_wants" s_put_wants []
  d_put_book : Z.At K mg "put_book" "put_book" s_put_book []
  d_law_cell : Z.At K mg "_law_cell" "_law_cell" s_law_cell []
  d_law_draws : Z.At K mg "_law_draws" "_law_draws" s_law_draws []
  d_law_low : Z.At K mg "_law_low" "_law_low" s_law_low []
  d_law_wants : Z.At K mg "_law_wants" "_law_wants" s_law_wants []
  d_law_is_no_turn : Z.At K mg "_law_is_no_turn" "_law_is_no_turn" s_law_is_no_turn []
  d_law_order : Z.At K mg "_law_order" "_law_order" s_law_order []
  d_law_no_order : Z.At K mg "_law_no_order" "_law_no_order" s_law_no_order []
  d_law_refused : Z.At K mg "_law_refused" "_law_refused" s_law_refused []
  d_law_no_wants : Z.At K mg "_law_no_wants" "_law_no_wants" s_law_no_wants []
  d_law_number : Z.At K mg "_law_number" "_law_number" s_law_number []
  d_law : Z.At K mg "law" "law" s_law []
  b_ValueError : mg "ValueError" = none
  b_abs : mg "abs" = none
  b_all : mg "all" = none
  b_bool : mg "bool" = none
  b_enumerate : mg "enumerate" = none
  b_int : mg "int" = none
  b_isinstance : mg "isinstance" = none
  b_len : mg "len" = none
  b_list : mg "list" = none
  b_min : mg "min" = none
  b_range : mg "range" = none
  b_sorted : mg "sorted" = none
  b_str : mg "str" = none
  b_tuple : mg "tuple" = none
  c_LETTERS : ∃ u, mg "LETTERS" = some u ∧ RelV (.str "abcdefghijklmnopqrstuvwxyz") u
  c_LONGEST : ∃ u, mg "LONGEST" = some u ∧ RelV (.int 8) u
  c_MOST_THINGS : ∃ u, mg "MOST_THINGS" = some u ∧ RelV (.int 20) u
  c_GREATEST_COUNT : ∃ u, mg "GREATEST_COUNT" = some u ∧ RelV (.int 1000000000) u
  k_DearError : mg "DearError" = some (.ref (He.ga K "DearError"))
  k_NoNumber : mg "NoNumber" = some (.ref (He.ga K "NoNumber"))
  k_NoBook : mg "NoBook" = some (.ref (He.ga K "NoBook"))
  k_NoTree : mg "NoTree" = some (.ref (He.ga K "NoTree"))
  k_TooMany : mg "TooMany" = some (.ref (He.ga K "TooMany"))
  k_NoCount : mg "NoCount" = some (.ref (He.ga K "NoCount"))
  k_NoUndo : mg "NoUndo" = some (.ref (He.ga K "NoUndo"))
  k_NoTurn : mg "NoTurn" = some (.ref (He.ga K "NoTurn"))
  k_NoRow : mg "NoRow" = some (.ref (He.ga K "NoRow"))
  k_Unknown : mg "Unknown" = some (.ref (He.ga K "Unknown"))
  k_NoTongue : mg "NoTongue" = some (.ref (He.ga K "NoTongue"))
  k_NoWants : mg "NoWants" = some (.ref (He.ga K "NoWants"))
  k_NoThing : mg "NoThing" = some (.ref (He.ga K "NoThing"))
  k_BadSign : mg "BadSign" = some (.ref (He.ga K "BadSign"))
  k_NoText : mg "NoText" = some (.ref (He.ga K "NoText"))
section
variable {P : Program} {w : World} {K : PySem.W.Frag} {mg : Str → Option Value} {base : Heap}
/-! ### names and wants -/
def low (c : Nat) : Bool := decide (97 ≤ c ∧ c ≤ 122)
theorem low_mem (c : Nat) : decide (c ∈ (Str.ofString "abcdefghijklmnopqrstuvwxyz").cps.toList) = low c := by
  have e : (Str.ofString "abcdefghijklmnopqrstuvwxyz").cps.toList = [97, 98, 99, 100, 101, 102, 103, 104, 105, 106, 107, 108, 109, 110, 111, 112, 113, 114, 115, 116, 117, 118, 119, 120, 121, 122] := by decide +kernel
  rw [e]
  unfold low
  rw [decide_eq_decide]
  simp only [List.mem_cons, List.not_mem_nil, or_false]
  omega
def nameOk (z : Str) : Bool := decide (1 ≤ (tl z).length ∧ (tl z).length ≤ 8) && (tl z).all low
def isName : PyData → Bool
  | .str z => nameOk z
  | _ => false
def isWhole : PyData → Bool
  | .int _ => true
  | _ => false
def sp_is_whole : Sp := fun vs H Q _ => ∃ x d, vs = [x] ∧ Dq H x d ∧ Q (.bl (isWhole d)) H
theorem ok_is_whole (T : Txt K mg) : Z.C0 P w K mg base 1 "is_whole" (sp_is_whole) := by
  refine T.d_is_whole.c0 sc_is_whole (fun vs H Q E h => ?_) (Z.bd0 fun _ _ _ _ _ _ us hl => match us, hl with | [_], _ => rfl) (fun f cdv A outer s H vs Q E hr h => ⟨_, (pss_one (ps_ret (pe_and (pe_callB (k_isi K) rfl T.b_isinstance (by decide +kernel) (pa_cons (pv 0) (pa_cons (pe_bltn (v := .ty "int") rfl T.b_int (by decide +kernel) rfl) pa_nil))) (pe_one (pe_not (pe_callB (k_isi K) rfl T.b_isinstance (by decide +kernel) (pa_cons (pv 0) (pa_cons (pe_bltn (v := .ty "bool") rfl T.b_bool (by decide +kernel) rfl) pa_nil)))))))), ?_⟩)
  · obtain ⟨x, d, rfl, _⟩ := h
    rfl
  · obtain ⟨x, d, rfl, hd, q⟩ := h
    rw [st_is_whole]
    walk_at "st"
    rcases hd.split with ⟨rfl, rfl⟩ | ⟨b, rfl, rfl⟩ | ⟨i, rfl, rfl⟩ | ⟨z, rfl, rfl, hz⟩ | ⟨a, xs, ds, rfl, rfl, h1, h2, hn⟩ | ⟨a, xs, ds, rfl, rfl, h1, h2, hn⟩ | ⟨a, rfl, rfl, h1⟩
    all_goals
      walk_at "rd"
      exact q
def sp_is_name : Sp := fun vs H Q _ => ∃ x d, vs = [x] ∧ Dq H x d ∧ ∀ H', Same H H' → Q (.bl (isName d)) H'
theorem all_mapL (l : List Nat) (p : Nat → Bool) : (l.map p).all id = l.all p := by
  rw [List.all_map]
  rfl
theorem ok_is_name (T : Txt K mg) : Z.C0 P w K mg base 1 "is_name" (sp_is_name) := by
  refine T.d_is_name.c0 sc_is_name (fun vs H Q E h => ?_) (Z.bd0 fun _ _ _ _ _ _ us hl => match us, hl with | [_], _ => rfl) (fun f cdv A outer s H vs Q E hr h => ⟨_, (pss_cons (ps_if (PW.pt (pw_or (pt_not (pt_val (pe_callB (k_isi K) rfl T.b_isinstance (by decide +kernel) (pa_cons (pv 0) (pa_cons (pe_bltn (v := .ty "str") rfl T.b_str (by decide +kernel) rfl) pa_nil))))) (pw_or1 (pt_not (pt_chain op_leI op_leI pe_int (pe_callB (k_len K) rfl T.b_len (by decide +kernel) (pa_cons (pv 0) pa_nil)) (C8.pe_gc rfl T.c_LONGEST))))))
  (pss_one (ps_ret pe_bl)) pss_nil)
  (pss_one (ps_ret (pe_callB (k_all K rfl) rfl T.b_all (by decide +kernel) (pa_cons (pe_lc (own := [("sign", 1)]) rfl sc_is_name.nd (pi_str (pv 0)) (blkOk_by (N := ["thing", "sign"]) (sc := defScope s_is_name) (by decide +kernel)) (fun _ _ _ _ _ => (pg_name (i := 1) sc_is_name.nd rfl (Or.inl rfl))) (fun _ _ _ _ _ => pts_nil) (fun _ _ _ _ _ => (pe_cmpR (k_inP K) (pv 1) (C8.pe_gc rfl T.c_LETTERS) (by rfl)))) pa_nil))))), ?_⟩)
  · obtain ⟨x, d, rfl, _⟩ := h
    rfl
  · obtain ⟨x, d, rfl, hd, q⟩ := h
    rw [st_is_name]
    walk_at "st"
    rcases hd.split with ⟨rfl, rfl⟩ | ⟨b, rfl, rfl⟩ | ⟨i, rfl, rfl⟩ | ⟨z, rfl, rfl, hz⟩ | ⟨a, xs, ds, rfl, rfl, h1, h2, hn⟩ | ⟨a, xs, ds, rfl, rfl, h1, h2, hn⟩ | ⟨a, rfl, rfl, h1⟩
    case inr.inr.inr.inl =>
      have el : z.length = (tl z).length := len_tl z
      have no : ∀ H', Same H H' → nameOk z = false → Q (.bl false) H' := fun H' e h => by
        have := q H' e
        rwa [show isName (.str z) = nameOk z from rfl, h] at this
      have nok : ¬ (1 ≤ (tl z).length ∧ (tl z).length ≤ 8) → nameOk z = false := fun h => by
        unfold nameOk
        rw [decide_eq_false h]
        rfl
      walk_at "rd"
      refine r_ite (fun h1 => ?_) (fun h1 => ?_)
      · walk_at "rd"
        refine r_nite (fun h2 => ?_) (fun h2 => ?_)
        · walk_at "rd"
          exact no H (Same.refl _) (nok (by omega))
        · have hh : 1 ≤ (tl z).length ∧ (tl z).length ≤ 8 := ⟨by omega, by omega⟩
          walk_at "rd"
          refine lcW walk_str (fun i acc _ => acc = (((tl z).take i).map low).map V.bl) rfl (fun _ _ => trivial) (fun _ _ => rfl) ?_ ?_
          · rintro i x acc Dl H1 _ hi hD e1 e2 hl2 rfl ⟨rfl, c, hc, rfl⟩
            walk_at "rd"
            rw [low_mem]
            have hc2 : (tl z)[i]? = some c := by simpa [tl] using hc
            refine lc_put (by have := (List.getElem?_eq_some_iff.mp hc2).1; omega) hD e1 e2 hl2 fun H5 _ _ => ?_
            rw [List.take_add_one, hc2]
            simp
          · rintro acc Dl H1 hD e1 e2 rfl
            have en : z.cps.size = (tl z).length := by simp [tl]
            rw [en, List.take_length] at e2
            walk_at "rd"
            refine r_all (sqL e2) ?_
            rw [all_mapL]
            have e3 : isName (.str z) = (tl z).all low := by
              show nameOk z = _
              unfold nameOk
              rw [decide_eq_true hh]
              rfl
            have := q H1 e1
            rw [e3] at this
            exact this
      · walk_at "rd"
        exact no H (Same.refl _) (nok (by omega))
    all_goals
      walk_at "rd"
      exact q H (Same.refl _)
/-- a want that can be: its name -/
def cntOk : PyData → Bool
  | .int c => decide (0 ≤ c) && decide (c ≤ 1000000000)
  | _ => false
def strOf : PyData → Str
  | .str z => z
  | _ => Str.empty
def wantName : PyData → Option Str
  | .tuple [d, c] => if (isName d && cntOk c) = true then some (strOf d) else none
  | _ => none
theorem wantName2 (d c : PyData) : (wantName (.tuple [d, c])).isSome = (isName d && cntOk c) := by
  show (if _ then _ else _ : Option Str).isSome = _
  cases (isName d && cntOk c) <;> rfl
def sp_is_want : Sp := fun vs H Q _ => ∃ x d, vs = [x] ∧ Dq H x d ∧ ∀ H', Same H H' → Q (.bl (wantName d).isSome) H'
theorem ok_is_want (T : Txt K mg) : Z.C0 P w K mg base 2 "is_want" (sp_is_want) := by
  refine T.d_is_want.c0 sc_is_want (fun vs H Q E h => ?_) (Z.bd0 fun _ _ _ _ _ _ us hl => match us, hl with | [_], _ => rfl) (fun f cdv A outer s H vs Q E hr h => ⟨_, (pss_cons (ps_if (PW.pt (pw_or (pt_not (pt_val (pe_callB (k_isi K) rfl T.b_isinstance (by decide +kernel) (pa_cons (pv 0) (pa_cons (pe_bltn (v := .ty "tuple") rfl T.b_tuple (by decide +kernel) rfl) pa_nil))))) (pw_or (pt_cmpR (k_neP K hr.units) (pe_callB (k_len K) rfl T.b_len (by decide +kernel) (pa_cons (pv 0) pa_nil)) pe_int (nomark _)) (pw_or1 (pt_not (pt_val (pe_c0 (ok_is_name T) hr (by decide) rfl (pa_cons (pe_ix (k_ix K) (pv 0) pe_int (fun _ _ => rfl)) pa_nil))))))))
  (pss_one (ps_ret pe_bl)) pss_nil)
  (pss_one (ps_ret (pe_and (pe_c0 (ok_is_whole T) hr (by decide) rfl (pa_cons (pe_ix (k_ix K) (pv 0) pe_int (fun _ _ => rfl)) pa_nil)) (pe_one (pe_chain op_leI op_leI pe_int (pe_ix (k_ix K) (pv 0) pe_int (fun _ _ => rfl)) (C8.pe_gc rfl T.c_GREATEST_COUNT))))))), ?_⟩)
  · obtain ⟨x, d, rfl, _⟩ := h
    rfl
  · obtain ⟨x, d, rfl, hd, q⟩ := h
    rw [st_is_want]
    walk_at "st"
    rcases hd.split with ⟨rfl, rfl⟩ | ⟨b, rfl, rfl⟩ | ⟨i, rfl, rfl⟩ | ⟨z, rfl, rfl, hz⟩ | ⟨a, xs, ds, rfl, rfl, h1, h2, hn⟩ | ⟨a, xs, ds, rfl, rfl, h1, h2, hn⟩ | ⟨a, rfl, rfl, h1⟩
    case inr.inr.inr.inr.inr.inl =>
      have no : ∀ H', Same H H' → wantName (.tuple ds) = none → Q (.bl false) H' := fun H' e h => by
        have := q H' e
        rwa [h] at this
      have hl := h2.length
      walk_at "rd"
      refine r_nite (fun h3 => ?_) (fun h3 => ?_)
      · walk_at "rd"
        refine no H (Same.refl _) ?_
        match ds, hl with
        | [], _ => rfl
        | [_], _ => rfl
        | [_, _], hl => exact absurd (by rw [hl]; rfl) h3
        | _ :: _ :: _ :: _, _ => rfl
      · match ds, h2 with
        | [], h2 => exact absurd h3 (by rw [hl]; decide)
        | [_], h2 => exact absurd h3 (by rw [hl]; simp)
        | _ :: _ :: _ :: _, h2 => exact absurd h3 (by rw [hl]; simp; omega)
        | [d1, d2], h2 =>
          obtain ⟨v1, vs1, rfl, g1, h2⟩ := h2.cons_inv
          obtain ⟨v2, vs2, rfl, g2, h2⟩ := h2.cons_inv
          obtain rfl := h2.nil_inv
          walk_at "rd"
          refine ⟨v1, d1, rfl, g1, fun H1 e1 => ?_⟩
          replace q := q H1 e1
          rw [wantName2] at q
          walk_at "rd"
          cases en : isName d1 with
          | false =>
            rw [en] at q
            walk_at "rd"
            exact q
          | true =>
            rw [en] at q
            walk_at "rd"
            refine ⟨v2, d2, rfl, by walk_at "lk", ?_⟩
            rcases g2.split with ⟨rfl, rfl⟩ | ⟨b, rfl, rfl⟩ | ⟨i, rfl, rfl⟩ | ⟨z, rfl, rfl, hz⟩ | ⟨a, xs, ds, rfl, rfl, k1, k2, kn⟩ | ⟨a, xs, ds, rfl, rfl, k1, k2, kn⟩ | ⟨a, rfl, rfl, k1⟩
            case inr.inr.inl =>
              dsimp only [isWhole]
              have q2 : Q (.bl (decide (0 ≤ i) && decide (i ≤ 1000000000))) H1 := q
              walk_at "rd"
              refine r_ite (fun h4 => ?_) (fun h4 => ?_)
              · rw [decide_eq_true h4] at q2
                walk_at "rd"
                exact q2
              · rw [decide_eq_false h4] at q2
                walk_at "rd"
                exact q2
            all_goals
              dsimp only [isWhole]
              walk_at "rd"
              exact q
    all_goals
      walk_at "rd"
      exact q H (Same.refl _)
theorem want_str {H : Hp} {x : V} {d : PyData} {n : Str} (h : Dq H x d) (e : wantName d = some n) : ∃ (T : Addr) (v2 : V), x = .ref T ∧ H T = some (.tup [.str n, v2]) := by
  rcases h.split with ⟨rfl, rfl⟩ | ⟨b, rfl, rfl⟩ | ⟨i, rfl, rfl⟩ | ⟨z, rfl, rfl, hz⟩ | ⟨a, xs, ds, rfl, rfl, h1, h2, hn⟩ | ⟨a, xs, ds, rfl, rfl, h1, h2, hn⟩ | ⟨a, rfl, rfl, h1⟩
  case inr.inr.inr.inr.inr.inl =>
    match ds, h2 with
    | [], _ => cases e
    | [_], _ => cases e
    | _ :: _ :: _ :: _, _ => cases e
    | [d1, d2], h2 =>
      obtain ⟨v1, vs1, rfl, g1, h2⟩ := h2.cons_inv
      obtain ⟨v2, vs2, rfl, g2, h2⟩ := h2.cons_inv
      obtain rfl := h2.nil_inv
      have e2 : (if (isName d1 && cntOk d2) = true then some (strOf d1) else none) = some n := e
      split at e2
      · rename_i hc
        obtain ⟨hnm, _⟩ := Bool.and_eq_true_iff.mp hc
        rcases g1.split with ⟨rfl, rfl⟩ | ⟨b, rfl, rfl⟩ | ⟨i, rfl, rfl⟩ | ⟨z, rfl, rfl, hz⟩ | ⟨a, xs, ds, rfl, rfl, h1, h2, hn⟩ | ⟨a, xs, ds, rfl, rfl, h1, h2, hn⟩ | ⟨a, rfl, rfl, h1⟩
        case inr.inr.inr.inl =>
          cases e2
          exact ⟨_, _, rfl, h1⟩
        all_goals cases hnm
      · cases e2
  all_goals cases e
/-- the first thing of a list that can't stand; names ahead: seen -/
def wantsScan : List Str → Nat → List PyData → Option Nat
  | _, _, [] => none
  | seen, i, d :: ds => match wantName d with
    | none => some i
    | some n => if n ∈ seen then some i else wantsScan (seen ++ [n]) (i + 1) ds
/-- what is wrong with wants: none, or the number told (None: no list, too few, too many) -/
def wantsErr : PyData → Option V
  | .list ds => if 1 ≤ ds.length ∧ ds.length ≤ 20 then (wantsScan [] 0 ds).map fun i => .int (i : Nat) else some .non
  | _ => some .non
def rais (K : PySem.W.Frag) (c f : Str) (y : V) (H : Hp) (E : XK) : Prop := ∀ d H', H d = none → Same H H' → H' d = some (.xd [(f, y)]) → E (.ref (He.ga K c)) (some d) H'
def wantsQ (K : PySem.W.Frag) (r : Option V) (H : Hp) (Q : VK) (E : XK) : Prop := match r with
  | none => ∀ H', Same H H' → Q .non H'
  | some y => rais K "NoWants" "number" y H E
def sp_look_wants (K : PySem.W.Frag) : Sp := fun vs H Q E => ∃ x d, vs = [x] ∧ Dq H x d ∧ wantsQ K (wantsErr d) H Q E
theorem oki_NoWants (T : Txt K mg) : Z.Oi P w K mg base "NoWants" "number" := by
  refine T.i_NoWants.oi sci_NoWants (fun _ _ _ _ _ _ us hl => match us, hl with | [_, _], _ => rfl) (fun cdv A outer s H vs Q E hr h => ⟨_, (pss_cons (ps_expr (pe_dearI rfl T.k_DearError T.ex.d (pa_cons (pv 0) (pa_cons (pe_joined (PJ.cons pe_str (PJ.cons (pe_fmtN (pv 1)) PJ.nil))) pa_nil))))
  (pss_one (ps_ost (pv 0) (pv 1)))), ?_⟩)
  obtain ⟨a, y, rfl, ha, hf, q⟩ := h
  rw [sti_NoWants]
  walk_at "st"
  walk_at "rd"
  refine r_fmtNV hf (fun z hz => ?_)
  refine r_jsV (by decide) hz (fun z => ?_)
  walk_at "rd"
  refine ⟨a, _, _, rfl, by simp, (T.ex.i ("NoWants", "number") (by simp)).oe, ha, ?_⟩
  walk_at "rd"
  exact ⟨a, _, rfl, (T.ex.i ("NoWants", "number") (by simp)).oe, (T.ex.i ("NoWants", "number") (by simp)).no, Or.inl ⟨ha, fun d h1 h2 => q d h1 h2⟩⟩
theorem ok_look_at_wants (T : Txt K mg) : Z.CE P w K mg base 3 "look_at_wants" (sp_look_wants K) := by
  refine T.d_look_at_wants.ce sc_look_at_wants (fun vs H Q E h => ?_) (Z.bd0 fun _ _ _ _ _ _ us hl => match us, hl with | [_], _ => rfl) (fun f cdv A outer s H vs Q E hr h => ⟨_, (pss_cons (ps_if (PW.pt (pw_or (pt_not (pt_val (pe_callB (k_isi K) rfl T.b_isinstance (by decide +kernel) (pa_cons (pv 0) (pa_cons (pe_bltn (v := .ty "list") rfl T.b_list (by decide +kernel) rfl) pa_nil))))) (pw_or1 (pt_not (pt_chain op_leI op_leI pe_int (pe_callB (k_len K) rfl T.b_len (by decide +kernel) (pa_cons (pv 0) pa_nil)) (C8.pe_gc rfl T.c_MOST_THINGS))))))
  (pss_one (ps_raiO K rfl (takes_of rfl rfl rfl rfl) (T.ex.i ("NoWants", "number") (by simp)) (oki_NoWants T) hr (by decide) rfl (pa_cons pe_non pa_nil))) pss_nil)
  (pss_cons (ps_set (i := 1) sc_look_at_wants.nd rfl (Or.inl rfl) pe_dnewK)
  (pss_one (ps_for (passes_of rfl) rfl (k_iE K (by rfl) T.b_enumerate (pa_cons (pv 0) pa_nil)) (k_tup K rfl (pgs_cons (pg_name (i := 2) sc_look_at_wants.nd rfl (Or.inl rfl)) (pgs_cons (pg_name (i := 3) sc_look_at_wants.nd rfl (Or.inl rfl)) pgs_nil)))
  (pss_cons (ps_if (PW.pt (pw_or (pt_not (pt_val (pe_c0 (ok_is_want T) hr (by decide) rfl (pa_cons (pv 3) pa_nil)))) (pw_or1 (pt_cmp (pc_din (Z.hu1 hr.units) (pe_ix (k_ix K) (pv 3) pe_int (fun _ _ => rfl)) (pv 1))))))
  (pss_one (ps_raiO K rfl (takes_of rfl rfl rfl rfl) (T.ex.i ("NoWants", "number") (by simp)) (oki_NoWants T) hr (by decide) rfl (pa_cons (pv 2) pa_nil))) pss_nil)
  (pss_one (ps_dput (Z.hu1 hr.units) (pv 1) (pe_ix (k_ix K) (pv 3) pe_int (fun _ _ => rfl)) pe_bl rfl))))))), ?_⟩)
  · obtain ⟨x, d, rfl, _⟩ := h
    rfl
  · obtain ⟨x, d, rfl, hd, q⟩ := h
    rw [st_look_at_wants]
    walk_at "st"
    have bad : ∀ d, wantsErr d = some .non → wantsQ K (wantsErr d) H Q E → rais K "NoWants" "number" .non H E := fun d e h => by
      rw [e] at h
      exact h
    rcases hd.split with ⟨rfl, rfl⟩ | ⟨b, rfl, rfl⟩ | ⟨i, rfl, rfl⟩ | ⟨z, rfl, rfl, hz⟩ | ⟨a, xs, ds, rfl, rfl, h1, h2, hn⟩ | ⟨a, xs, ds, rfl, rfl, h1, h2, hn⟩ | ⟨a, rfl, rfl, h1⟩
    case inr.inr.inr.inr.inl =>
      have hl := h2.length
      have out : ¬ (1 ≤ ds.length ∧ ds.length ≤ 20) → rais K "NoWants" "number" .non H E := fun h => bad (.list ds) (if_neg h) q
      walk_at "rd"
      refine r_ite (fun h3 => ?_) (fun h3 => ?_)
      · walk_at "rd"
        refine r_nite (fun h4 => ?_) (fun h4 => ?_)
        · walk_at "rd"
          refine r_raiE (.inl rfl) (fun d hd => ?_)
          exact out (by omega) d _ hd (Same.new hd) upd_same
        · have hh : 1 ≤ ds.length ∧ ds.length ≤ 20 := ⟨by omega, by omega⟩
          have q2 : wantsQ K ((wantsScan [] 0 ds).map fun i => .int (i : Nat)) H Q E := by
            have e : wantsErr (.list ds) = (wantsScan [] 0 ds).map fun i => .int (i : Nat) := if_pos hh
            rwa [e] at q
          walk_at "rd"
          intro nd H1 hnd e1 f1
          walk_at "rd"
          refine forW (walk_enum (xs := xs)) (fun i σ H2 => ∃ (seen : List Str) (kvs : List (Key × V)) (z2 z3 : Option V), σ = [some (.ref a), some (.ref nd), z2, z3] ∧ Same H H2 ∧ H2 nd = some (.dK kvs) ∧ kvs.length ≤ i ∧ (∀ z, (valV kvs (.inr z)).isSome = decide (z ∈ seen)) ∧ wantsScan [] 0 ds = wantsScan seen i (ds.drop i)) ⟨[], [], none, none, rfl, e1, f1, Nat.le_refl _, fun z => rfl, rfl⟩ (fun i σ H2 _ ⟨_, _, _, _, _, e, _⟩ => by walk_at "lk") ?_ ?_
          · rintro i x σ H2 H3 hi ⟨seen, kvs, z2, z3, rfl, e2, f2, g2, hv, hs⟩ y
            obtain ⟨T1, x1, x2, rfl, hT, rfl, hx1, hx2⟩ := y
            have e3 : Same H2 (upd H2 T1 (.tup [x1, x2])) := Same.new hT
            have f3 : (upd H2 T1 (.tup [x1, x2])) T1 = some (.tup [x1, x2]) := upd_same
            revert e3 f3
            generalize upd H2 T1 (.tup [x1, x2]) = H3
            intro e3 f3
            obtain rfl : V.int (i : Nat) = x1 := Option.some.inj hx1
            have hi2 : i < ds.length := by omega
            obtain rfl : xs[i] = x2 := by
              have e := List.getElem?_eq_getElem hi
              exact Option.some.inj (e.symm.trans hx2)
            have gi : Dq H xs[i] ds[i] := h2.get i hi hi2
            rw [List.drop_eq_getElem_cons hi2] at hs
            walk_at "rd"
            refine ⟨_, ds[i], rfl, by walk_at "lk", fun H4 e4 => ?_⟩
            cases en : wantName ds[i] with
            | none =>
              have hs2 : wantsScan [] 0 ds = some i := by
                rw [hs]
                show (match wantName ds[i] with | none => some i | some n => _) = _
                rw [en]
              rw [hs2] at q2
              rw [Option.isSome_none]
              walk_at "rd"
              refine r_raiE (fmt_nat (by omega)) (fun d hd => ?_)
              have e5 : Same H H4 := by walk_at "sm"
              exact q2 d _ (Z.fr hd e5) (e5.trans (Same.new hd)) upd_same
            | some n =>
              obtain ⟨T2, v2, ex, hT2⟩ := want_str gi en
              rw [ex, Option.isSome_some]
              walk_at "rd"
              rw [hv]
              refine r_ite (fun h5 => ?_) (fun h5 => ?_)
              · have hs2 : wantsScan [] 0 ds = some i := by
                  rw [hs]
                  show (match wantName ds[i] with | none => some i | some n => if n ∈ seen then some i else _) = _
                  rw [en]
                  exact if_pos h5
                rw [hs2] at q2
                walk_at "rd"
                refine r_raiE (fmt_nat (by omega)) (fun d hd => ?_)
                have e5 : Same H H4 := by walk_at "sm"
                exact q2 d _ (Z.fr hd e5) (e5.trans (Same.new hd)) upd_same
              · have hs2 : wantsScan [] 0 ds = wantsScan (seen ++ [n]) (i + 1) (ds.drop (i + 1)) := by
                  rw [hs]
                  show (match wantName ds[i] with | none => some i | some n => if n ∈ seen then some i else _) = _
                  rw [en]
                  exact if_neg h5
                walk_at "rd"
                intro H5 b5 f5
                refine ⟨seen ++ [n], putK kvs (.inr n) (.bl true), _, _, rfl, by walk_at "sm", f5, ?_, fun z => ?_, hs2⟩
                · exact Nat.le_trans (Z.putLen _ _ _) (by omega)
                · rw [valV_put]
                  by_cases hz : z = n
                  · rw [if_pos (by rw [hz])]
                    simp [hz]
                  · rw [if_neg (by intro h; exact hz (Sum.inr.inj h)), hv]
                    simp [hz]
          · rintro σ H2 ⟨seen, kvs, z2, z3, rfl, e2, f2, g2, hv, hs⟩
            walk_at "rd"
            rw [hs, hl, List.drop_length] at q2
            exact q2 H2 e2
      · walk_at "rd"
        refine r_raiE (.inl rfl) (fun d hd => ?_)
        exact out (by omega) d _ hd (Same.new hd) upd_same
    all_goals
      walk_at "rd"
      refine r_raiE (.inl rfl) (fun d hd => ?_)
      exact bad _ rfl q d _ hd (Same.new hd) upd_same
end
end My

namespace My
open PySem PySem.Spec PyProof.Rows L2 Z M SX TL
section
variable {P : Program} {w : World} {K : PySem.W.Frag} {mg : Str → Option Value} {base : Heap}
/-! ### orders -/
def raisM (K : PySem.W.Frag) (c : Str) (H : Hp) (E : XK) : Prop := ∀ H', Same H H' → E (.ref (He.ga K c)) none H'
/-- an order of m things -/
def ordOk (m : Nat) : PyData → Bool
  | .list ds => ds.all isWhole && ordL m (ds.map intOf)
  | _ => false
def sp_look_order (K : PySem.W.Frag) : Sp := fun vs H Q E => ∃ (m : Nat) (x : V) (d : PyData), vs = [.int m, x] ∧ m ≤ 1000000 ∧ Dq H x d ∧ (ordOk m d = true → ∀ H', Same H H' → Q .non H') ∧ (ordOk m d = false → raisM K "NoTurn" H E)
theorem whole_ints {H : Hp} : ∀ {xs : List V} {ds : List PyData}, DqAll H xs ds → ds.all isWhole = true → xs = (ds.map intOf).map V.int
  | _, _, .nil, _ => rfl
  | _, _, .cons (v := v) (d := d) h r, e => by
    rw [List.all_cons, Bool.and_eq_true_iff] at e
    rw [List.map_cons, List.map_cons, ← whole_ints r e.2]
    have : v = V.int (intOf d) := by
      cases h with
      | int i => rfl
      | _ => cases e.1
    rw [this]
theorem all_mapQ (l : List PyData) (p : PyData → Bool) : (l.map p).all id = l.all p := by
  rw [List.all_map]
  rfl
theorem ok_look_at_order (T : Txt K mg) : Z.CE P w K mg base 3 "look_at_order" (sp_look_order K) := by
  refine T.d_look_at_order.ce sc_look_at_order (fun vs H Q E h => ?_) (Z.bd0 fun _ _ _ _ _ _ us hl => match us, hl with | [_, _], _ => rfl) (fun f cdv A outer s H vs Q E hr h => ⟨_, (pss_cons (ps_if (PW.pt (pw_or (pt_not (pt_val (pe_callB (k_isi K) rfl T.b_isinstance (by decide +kernel) (pa_cons (pv 1) (pa_cons (pe_bltn (v := .ty "list") rfl T.b_list (by decide +kernel) rfl) pa_nil))))) (pw_or1 (pt_not (pt_val (pe_callB (k_all K rfl) rfl T.b_all (by decide +kernel) (pa_cons (pe_lc (own := [("one", 2)]) rfl sc_look_at_order.nd (k_iL K (pv 1)) (blkOk_by (N := ["many", "order", "one"]) (sc := defScope s_look_at_order) (by decide +kernel)) (fun _ _ _ _ _ => (pg_name (i := 2) sc_look_at_order.nd rfl (Or.inl rfl))) (fun _ _ _ _ _ => pts_nil) (fun _ _ _ _ _ => (pe_c0 (ok_is_whole T) hr (by decide) rfl (pa_cons (pv 2) pa_nil)))) pa_nil)))))))
  (pss_one (ps_raiN K rfl (takes_of rfl rfl rfl rfl) (T.ex.s "NoTurn" (by simp)) rfl (pa_cons pe_str pa_nil))) pss_nil)
  (pss_one (ps_if (pt_cmpR (k_neP K hr.units) (pe_callB (k_sortI K) rfl T.b_sorted (by decide +kernel) (pa_cons (pv 1) pa_nil)) (pe_listRg rfl rfl T.b_list (prg_1 rfl T.b_range (pv 0))) (nomark _))
  (pss_one (ps_raiN K rfl (takes_of rfl rfl rfl rfl) (T.ex.s "NoTurn" (by simp)) rfl (pa_cons pe_str pa_nil))) pss_nil))), ?_⟩)
  · obtain ⟨m, x, d, rfl, _⟩ := h
    rfl
  · obtain ⟨m, x, d, rfl, hm, hd, q1, q2⟩ := h
    rw [st_look_at_order]
    walk_at "st"
    rcases hd.split with ⟨rfl, rfl⟩ | ⟨b, rfl, rfl⟩ | ⟨i, rfl, rfl⟩ | ⟨z, rfl, rfl, hz⟩ | ⟨a, xs, ds, rfl, rfl, h1, h2, hn⟩ | ⟨a, xs, ds, rfl, rfl, h1, h2, hn⟩ | ⟨a, rfl, rfl, h1⟩
    case inr.inr.inr.inr.inl =>
      have hl := h2.length
      walk_at "rd"
      refine lcW (walk_list (xs := xs)) (fun i acc _ => acc = ((ds.take i).map isWhole).map V.bl) rfl (fun _ _ => by walk_at "lk") (fun _ _ => rfl) ?_ ?_
      · rintro i x acc Dl H1 H2 hi hD e1 e2 hl2 rfl y
        obtain ⟨rfl, hx⟩ := y
        have hi2 : i < ds.length := by omega
        obtain rfl : xs[i] = x := Option.some.inj ((List.getElem?_eq_getElem hi).symm.trans hx)
        have gi : Dq H xs[i] ds[i] := h2.get i hi hi2
        walk_at "rd"
        refine ⟨xs[i], ds[i], rfl, by walk_at "lk", ?_⟩
        refine lc_put (by omega) hD e1 e2 hl2 fun H5 _ _ => ?_
        rw [← List.take_append_getElem hi2, List.map_append, List.map_append]
        rfl
      · rintro acc Dl H1 hD e1 e2 rfl
        rw [hl, List.take_length] at e2
        walk_at "rd"
        refine r_all (sqL e2) ?_
        rw [all_mapQ]
        cases e : ds.all isWhole with
        | false =>
          walk_at "rd"
          exact ⟨by decide, q2 (by show (ds.all isWhole && _) = false; rw [e]; rfl) _ e1⟩
        | true =>
          obtain rfl := whole_ints h2 e
          have eo : ordOk m (.list ds) = ordL m (ds.map intOf) := by
            show (ds.all isWhole && _) = _
            rw [e]
            rfl
          rw [eo] at q1 q2
          walk_at "rd"
          intro ns' l H2 hp hs hl2 e3 f3
          walk_at "rd"
          refine ⟨RgOk.of_le (by decide) (by omega) (by decide) (by omega), fun l2 hl3 => ?_⟩
          have e4 : Same H2 (upd H2 l2 (.lst (rgV 0 (m : Int)))) := Same.new hl3
          have f4 : (upd H2 l2 (.lst (rgV 0 (m : Int)))) l2 = some (.lst (rgV 0 (m : Int))) := upd_same
          revert e4 f4
          generalize upd H2 l2 (.lst (rgV 0 (m : Int))) = H3
          intro e4 f4
          rw [rgV_eq] at f4
          refine r_neD (d := .list (ns'.map PyData.int)) (e := .list ((rgL m).map PyData.int)) (.lst (sqL (e4 _ _ f3)) (dp_ints _)) (.lst (sqL f4) (dp_ints _)) ?_ (shaped_ints _) (shaped_ints _)
          rw [eqv_ints, ord_sorted hp hs]
          cases eq : ordL m (ds.map intOf) with
          | false =>
            walk_at "rd"
            exact ⟨by decide, q2 eq _ (by walk_at "sm")⟩
          | true =>
            walk_at "rd"
            exact q1 eq _ (by walk_at "sm")
    all_goals
      walk_at "rd"
      exact ⟨by decide, q2 rfl _ (Same.refl _)⟩
def sp_put_so : Sp := fun vs H Q _ => ∃ (p o : Addr) (xs : List V) (js : List Nat), vs = [.ref p, .ref o] ∧ H p = some (.lst xs) ∧ H o = some (.lst (vsN js)) ∧ js.Perm (List.range xs.length) ∧ xs.length ≤ 1000000 ∧
  ∀ l H', H l = none → Same H H' → H' l = some (.lst (putJ xs js)) → Q (.ref l) H'
theorem ok_put_so (T : Txt K mg) : Z.C0 P w K mg base 1 "put_so" (sp_put_so) := by
  refine T.d_put_so.c0 sc_put_so (fun vs H Q E h => ?_) (Z.bd0 fun _ _ _ _ _ _ us hl => match us, hl with | [_, _], _ => rfl) (fun f cdv A outer s H vs Q E hr h => ⟨_, (pss_cons (ps_set (i := 2) sc_put_so.nd rfl (Or.inl rfl) (pe_callTy (k_list K) rfl T.b_list (by decide +kernel) (pa_cons (pv 0) pa_nil)))
  (pss_cons (ps_for PassesOwn.never rfl (k_iE K (by rfl) T.b_enumerate (pa_cons (pv 1) pa_nil)) (k_tup K rfl (pgs_cons (pg_name (i := 3) sc_put_so.nd rfl (Or.inl rfl)) (pgs_cons (pg_name (i := 4) sc_put_so.nd rfl (Or.inl rfl)) pgs_nil)))
  (pss_one (ps_asg (pe_ix (k_ix K) (pv 0) (pv 3) (fun _ _ => rfl)) (pg_sub (pv 2) (pv 4) set_list))))
  (pss_one (ps_ret (pv 2))))), ?_⟩)
  · obtain ⟨p, o, xs, js, rfl, _⟩ := h
    rfl
  · obtain ⟨p, o, xs, js, rfl, hp, ho, hj, hz, q⟩ := h
    have hjl := pr_len hj
    rw [st_put_so]
    walk_at "st"
    walk_at "rd"
    intro l H1 hl e1 f1
    walk_at "rd"
    refine forW (walk_enum (xs := vsN js)) (fun i σ H2 => ∃ (z1 z2 : Option V), σ = [some (.ref p), some (.ref o), some (.ref l), z1, z2] ∧ Same H H2 ∧ H2 l = some (.lst (putN xs js i))) ⟨none, none, rfl, e1, f1⟩ (fun i σ H2 _ ⟨_, _, _, e, _⟩ => by walk_at "lk") ?_ ?_
    · rintro i x σ H2 H3 hi ⟨z1, z2, rfl, e2, f2⟩ y
      obtain ⟨T1, x1, x2, rfl, hT, rfl, hx1, hx2⟩ := y
      have e3 : Same H2 (upd H2 T1 (.tup [x1, x2])) := Same.new hT
      have f3 : (upd H2 T1 (.tup [x1, x2])) T1 = some (.tup [x1, x2]) := upd_same
      revert e3 f3
      generalize upd H2 T1 (.tup [x1, x2]) = H3
      intro e3 f3
      obtain rfl : V.int (i : Nat) = x1 := Option.some.inj hx1
      have hi2 : i < js.length := by
        unfold vsN at hi
        rw [List.length_map] at hi
        exact hi
      obtain rfl : V.int (js[i] : Nat) = x2 := by
        have hx2 : (vsN js)[i]? = some x2 := hx2
        unfold vsN at hx2
        rw [List.getElem?_map, List.getElem?_eq_getElem hi2] at hx2
        exact Option.some.inj hx2
      have hb : js[i] < xs.length := pr_lt hj (List.getElem_mem hi2)
      have hx : atI xs (i : Int) = some xs[i] := atI_nat (List.getElem?_eq_getElem (by omega))
      have hx3 : ixN (putN xs js i).length (js[i] : Int) = some js[i] := by
        rw [putN_len]
        unfold ixN
        rw [if_pos (by omega), if_pos (by omega)]
        rfl
      have f5 : H3 l = some (.lst (putN xs js i)) := e3 _ _ f2
      walk_at "rd"
      intro H4 b4 f4
      have e4 : Same H H3 := e2.trans e3
      have e5 : Same H H4 := Same.but b4 hl e4
      refine ⟨_, _, rfl, e5, ?_⟩
      rw [f4, putN, List.getD_eq_getElem?_getD, List.getD_eq_getElem?_getD, List.getElem?_eq_getElem hi2, List.getElem?_eq_getElem (by omega)]
      rfl
    · rintro σ H2 ⟨z1, z2, rfl, e2, f2⟩
      walk_at "rd"
      refine q l H2 hl e2 ?_
      have e : (vsN js).length = js.length := by
        unfold vsN
        rw [List.length_map]
      rw [f2, e]
      rfl
def lenOf : PyData → Nat
  | .list ds => ds.length
  | _ => 0
/-- data that is no order, or an order -/
theorem ord_data {H : Hp} {y : V} {m : Nat} {e : PyData} (h : Dq H y e) (o : ordOk m e = true) : ∃ (b : Addr) (js : List Nat), y = .ref b ∧ H b = some (.lst (vsN js)) ∧ js.Perm (List.range m) ∧ e = .list (js.map fun j : Nat => PyData.int (j : Int)) := by
  rcases h.split with ⟨rfl, rfl⟩ | ⟨b, rfl, rfl⟩ | ⟨i, rfl, rfl⟩ | ⟨z, rfl, rfl, hz⟩ | ⟨a, xs, ds, rfl, rfl, h1, h2, hn⟩ | ⟨a, xs, ds, rfl, rfl, h1, h2, hn⟩ | ⟨a, rfl, rfl, h1⟩
  case inr.inr.inr.inr.inl =>
    have o2 : (ds.all isWhole && ordL m (ds.map intOf)) = true := o
    obtain ⟨o3, o4⟩ := Bool.and_eq_true_iff.mp o2
    obtain rfl := whole_ints h2 o3
    obtain ⟨js, e, p⟩ := ord_nat o4
    rw [e, vsN_ofN] at h1
    refine ⟨a, js, rfl, h1, p, ?_⟩
    congr 1
    have : ds = (ds.map intOf).map PyData.int := by
      rw [List.map_map]
      refine (List.map_id ds).symm.trans (List.map_congr_left fun d hd => ?_)
      have w := List.all_eq_true.mp o3 d hd
      cases d with
      | int i => rfl
      | _ => cases w
    rw [this, e]
    unfold ofN
    rw [List.map_map]
    rfl
  all_goals cases o
def sp_put_book (K : PySem.W.Frag) : Sp := fun vs H Q E => ∃ (a : Addr) (xs : List V) (y : V) (e : PyData), vs = [.ref a, y] ∧ H a = some (.lst xs) ∧ xs.length ≤ 1000000 ∧ Dq H y e ∧ (ordOk xs.length e = false → raisM K "NoTurn" H E) ∧
  ∀ b js, y = .ref b → H b = some (.lst (vsN js)) → js.Perm (List.range xs.length) → ∀ l H', H l = none → Same H H' → H' l = some (.lst (putJ xs js)) → Q (.ref l) H'
theorem ok_put_book (T : Txt K mg) : Z.CE P w K mg base 4 "put_book" (sp_put_book K) := by
  refine T.d_put_book.ce sc_put_book (fun vs H Q E h => ?_) (Z.bd0 fun _ _ _ _ _ _ us hl => match us, hl with | [_, _], _ => rfl) (fun f cdv A outer s H vs Q E hr h => ⟨_, (pss_cons (ps_expr (pe_ce (ok_look_at_order T) hr (by decide) rfl (takes_of rfl rfl rfl rfl) (pa_cons (pe_callB (k_len K) rfl T.b_len (by decide +kernel) (pa_cons (pv 0) pa_nil)) (pa_cons (pv 1) pa_nil))))
  (pss_one (ps_ret (pe_c0 (ok_put_so T) hr (by decide) rfl (pa_cons (pv 0) (pa_cons (pv 1) pa_nil)))))), ?_⟩)
  · obtain ⟨a, xs, y, e, rfl, _⟩ := h
    rfl
  · obtain ⟨a, xs, y, e, rfl, ha, hz, hy, q1, q2⟩ := h
    rw [st_put_book]
    walk_at "st"
    walk_at "rd"
    refine ⟨xs.length, y, e, rfl, hz, hy, fun ho H1 e1 => ?_, q1⟩
    obtain ⟨b, js, rfl, hb, hp, _⟩ := ord_data hy ho
    walk_at "rd"
    refine ⟨a, b, xs, js, rfl, by walk_at "lk", by walk_at "lk", hp, hz, fun l H2 hl e2 f2 => ?_⟩
    exact q2 b js rfl hb hp l H2 (Z.fr hl e1) (e1.trans e2) f2
def sp_put_wants (K : PySem.W.Frag) : Sp := fun vs H Q E => ∃ (x y : V) (d e : PyData), vs = [x, y] ∧ Dq H x d ∧ Dq H y e ∧ (∀ v, wantsErr d = some v → rais K "NoWants" "number" v H E) ∧ (wantsErr d = none → ordOk (lenOf d) e = false → raisM K "NoTurn" H E) ∧
  (wantsErr d = none → ∀ a xs b js, x = .ref a → H a = some (.lst xs) → y = .ref b → H b = some (.lst (vsN js)) → js.Perm (List.range xs.length) → ∀ l H', H l = none → Same H H' → H' l = some (.lst (putJ xs js)) → Q (.ref l) H')
theorem ok_put_wants (T : Txt K mg) : Z.CE P w K mg base 4 "put_wants" (sp_put_wants K) := by
  refine T.d_put_wants.ce sc_put_wants (fun vs H Q E h => ?_) (Z.bd0 fun _ _ _ _ _ _ us hl => match us, hl with | [_, _], _ => rfl) (fun f cdv A outer s H vs Q E hr h => ⟨_, (pss_cons (ps_expr (pe_ce (ok_look_at_wants T) hr (by decide) rfl (takes_of rfl rfl rfl rfl) (pa_cons (pv 0) pa_nil)))
  (pss_cons (ps_expr (pe_ce (ok_look_at_order T) hr (by decide) rfl (takes_of rfl rfl rfl rfl) (pa_cons (pe_callB (k_len K) rfl T.b_len (by decide +kernel) (pa_cons (pv 0) pa_nil)) (pa_cons (pv 1) pa_nil))))
  (pss_one (ps_ret (pe_c0 (ok_put_so T) hr (by decide) rfl (pa_cons (pv 0) (pa_cons (pv 1) pa_nil))))))), ?_⟩)
  · obtain ⟨x, y, d, e, rfl, _⟩ := h
    rfl
  · obtain ⟨x, y, d, e, rfl, hx, hy, q1, q2, q3⟩ := h
    rw [st_put_wants]
    walk_at "st"
    walk_at "rd"
    refine ⟨x, d, rfl, hx, ?_⟩
    cases er : wantsErr d with
    | some v => exact q1 v er
    | none =>
      intro H1 e1
      rcases hx.split with ⟨rfl, rfl⟩ | ⟨b, rfl, rfl⟩ | ⟨i, rfl, rfl⟩ | ⟨z, rfl, rfl, hz⟩ | ⟨a, xs, ds, rfl, rfl, h1, h2, hn⟩ | ⟨a, xs, ds, rfl, rfl, h1, h2, hn⟩ | ⟨a, rfl, rfl, h1⟩
      case inr.inr.inr.inr.inl =>
        have hl := h2.length
        have q2' : ordOk xs.length e = false → raisM K "NoTurn" H E := by
          rw [hl]
          exact q2 er
        walk_at "rd"
        refine ⟨xs.length, y, e, rfl, hn, by walk_at "lk", fun ho H2 e2 => ?_, fun ho => ?_⟩
        · obtain ⟨b, js, rfl, hb, hp, _⟩ := ord_data hy ho
          have e3 : Same H H2 := e1.trans e2
          clear e1 e2
          walk_at "rd"
          refine ⟨a, b, xs, js, rfl, by walk_at "lk", by walk_at "lk", hp, hn, fun l H3 hl e4 f3 => ?_⟩
          exact q3 er a xs b js rfl h1 rfl hb hp l H3 (Z.fr hl e3) (e3.trans e4) f3
        · intro H2 e2
          exact q2' ho _ (e1.trans e2)
      all_goals cases er
end
end My

namespace My
open PySem PySem.Spec PyProof.Rows L2 Z M SX TL
section
variable {P : Program} {w : World} {K : PySem.W.Frag} {mg : Str → Option Value} {base : Heap}
/-! ### wants that can be -/
def wantD (w : Str × Nat) : PyData := .tuple [.str w.1, .int (w.2 : Int)]
def wsD (ws : List (Str × Nat)) : List PyData := ws.map wantD
structure WsOk (ws : List (Str × Nat)) : Prop where
  l1 : 1 ≤ ws.length
  l2 : ws.length ≤ 20
  nd : (ws.map (·.1)).Nodup
  nm : ∀ w ∈ ws, nameOk w.1 = true
  ct : ∀ w ∈ ws, w.2 ≤ 1000000000
theorem wantName_ok {w : Str × Nat} (h1 : nameOk w.1 = true) (h2 : w.2 ≤ 1000000000) : wantName (wantD w) = some w.1 := by
  have h3 : cntOk (.int (w.2 : Int)) = true := by
    show (decide (0 ≤ (w.2 : Int)) && decide ((w.2 : Int) ≤ 1000000000)) = true
    rw [decide_eq_true (by omega), decide_eq_true (by omega)]
    rfl
  show (if (isName (.str w.1) && cntOk (.int (w.2 : Int))) = true then some (strOf (.str w.1)) else none) = _
  rw [if_pos (by rw [h3]; show (nameOk w.1 && true) = true; rw [h1]; rfl)]
  rfl
theorem scan_cons_none {seen : List Str} {i : Nat} {d : PyData} {ds : List PyData} (h : wantName d = none) : wantsScan seen i (d :: ds) = some i := by
  show (match wantName d with | none => some i | some n => if n ∈ seen then some i else _) = _
  rw [h]
theorem scan_cons_old {seen : List Str} {i : Nat} {d : PyData} {ds : List PyData} {n : Str} (h : wantName d = some n) (h2 : n ∈ seen) : wantsScan seen i (d :: ds) = some i := by
  show (match wantName d with | none => some i | some n => if n ∈ seen then some i else _) = _
  rw [h]
  exact if_pos h2
theorem scan_cons_new {seen : List Str} {i : Nat} {d : PyData} {ds : List PyData} {n : Str} (h : wantName d = some n) (h2 : n ∉ seen) : wantsScan seen i (d :: ds) = wantsScan (seen ++ [n]) (i + 1) ds := by
  show (match wantName d with | none => some i | some n => if n ∈ seen then some i else _) = _
  rw [h]
  exact if_neg h2
theorem scan_app : ∀ (ws : List (Str × Nat)) (seen : List Str) (i : Nat) (rest : List PyData), (ws.map (·.1)).Nodup → (∀ w ∈ ws, nameOk w.1 = true) → (∀ w ∈ ws, w.2 ≤ 1000000000) → (∀ w ∈ ws, w.1 ∉ seen) →
    wantsScan seen i (wsD ws ++ rest) = wantsScan (seen ++ ws.map (·.1)) (i + ws.length) rest
  | [], seen, i, rest, _, _, _, _ => by simp [wsD]
  | w :: ws, seen, i, rest, h1, h2, h3, h4 => by
    have e : wsD (w :: ws) ++ rest = wantD w :: (wsD ws ++ rest) := rfl
    rw [e, scan_cons_new (wantName_ok (h2 w List.mem_cons_self) (h3 w List.mem_cons_self)) (h4 w List.mem_cons_self)]
    rw [List.map_cons, List.nodup_cons] at h1
    rw [scan_app ws (seen ++ [w.1]) (i + 1) rest h1.2 (fun w hw => h2 w (List.mem_cons_of_mem _ hw)) (fun w hw => h3 w (List.mem_cons_of_mem _ hw)) (fun v hv => ?_)]
    · rw [List.map_cons, List.append_assoc, List.length_cons]
      congr 1
      omega
    · intro hm
      rcases List.mem_append.mp hm with hm | hm
      · exact h4 v (List.mem_cons_of_mem _ hv) hm
      · rw [List.mem_singleton] at hm
        exact h1.1 (List.mem_map.mpr ⟨v, hv, hm⟩)
theorem wantsErr_ok {ws : List (Str × Nat)} (h : WsOk ws) : wantsErr (.list (wsD ws)) = none := by
  have hl : (wsD ws).length = ws.length := by
    unfold wsD
    rw [List.length_map]
  have e : wantsErr (.list (wsD ws)) = (wantsScan [] 0 (wsD ws)).map fun i => .int (i : Nat) := if_pos (by rw [hl]; exact ⟨h.l1, h.l2⟩)
  rw [e]
  have := scan_app ws [] 0 [] h.nd h.nm h.ct (fun _ _ => List.not_mem_nil)
  rw [List.append_nil] at this
  rw [this]
  rfl
theorem strOk_low {z : Str} (h : (tl z).all low = true) : PyData.strOk z = true := by
  unfold PyData.strOk
  rw [← Array.all_toList, List.all_eq_true]
  intro c hc
  have := List.all_eq_true.mp h c hc
  unfold low at this
  have := of_decide_eq_true this
  exact decide_eq_true (by omega)
theorem name_low {z : Str} (h : nameOk z = true) : (tl z).all low = true := (Bool.and_eq_true_iff.mp h).2
theorem wsD_lay : ∀ ws : List (Str × Nat), (∀ w ∈ ws, nameOk w.1 = true) → PyData.canLayAll0 (wsD ws) = true ∧ PyData.depthAll (wsD ws) ≤ 3
  | [], _ => ⟨rfl, by show PyData.depthAll [] ≤ 3; decide⟩
  | w :: ws, h => by
    obtain ⟨h1, h2⟩ := wsD_lay ws fun w hw => h w (List.mem_cons_of_mem _ hw)
    constructor
    · show (PyData.canLay0 (wantD w) && PyData.canLayAll0 (wsD ws)) = true
      rw [h1, Bool.and_true]
      simp [wantD, PyData.canLay0, PyData.canLayAll0, strOk_low (name_low (h w List.mem_cons_self))]
    · show max (PyData.depth (wantD w)) (PyData.depthAll (wsD ws)) ≤ 3
      have : PyData.depth (wantD w) ≤ 3 := by
        show PyData.depth (.tuple [.str w.1, .int (w.2 : Int)]) ≤ 3
        simp [PyData.depth, PyData.depthAll]
      omega
theorem wsD_shaped {ws : List (Str × Nat)} (h : WsOk ws) : SeqAt.shaped (.list (wsD ws)) = true := by
  obtain ⟨h1, h2⟩ := wsD_lay ws h.nm
  unfold SeqAt.shaped
  rw [PyData.canLay0, h1, Bool.true_and, decide_eq_true_iff, PyData.depth]
  omega
theorem wsD_eqv {ws : List (Str × Nat)} (h : WsOk ws) : PyData.eqv (.list (wsD ws)) (.list (wsD ws)) = true := by
  rw [PyData.eqv]
  exact SeqAt.eqvAll_refl _ (wsD_lay ws h.nm).1
/-! ### cells, draws -/
def sp_cell (K : PySem.W.Frag) : Sp := fun vs H Q _ => ∃ (a : Addr) (ns : List Int) (k : Nat), vs = [.ref a, .int k] ∧ SqL K H a (ns.map V.int) ∧ ∀ c : Int, Q (.int c) H
theorem ok_law_cell (T : Txt K mg) : Z.C0 P w K mg base 1 "_law_cell" (sp_cell K) := by
  refine T.d_law_cell.c0 sc_law_cell (fun vs H Q E h => ?_) (Z.bd0 fun _ _ _ _ _ _ us hl => match us, hl with | [_, _], _ => rfl) (fun f cdv A outer s H vs Q E hr h => ⟨_, (pss_cons (ps_if (pt_cmpR op_ltI (pv 1) (pe_callB (k_len K) rfl T.b_len (by decide +kernel) (pa_cons (pv 0) pa_nil)) (nomark _))
  (pss_one (ps_ret (pe_ix (k_ix K) (pv 0) (pv 1) (fun _ _ => rfl)))) pss_nil)
  (pss_one (ps_ret pe_int))), ?_⟩)
  · obtain ⟨a, ns, k, rfl, _⟩ := h
    rfl
  · obtain ⟨a, ns, k, rfl, ha, q⟩ := h
    rw [st_law_cell]
    walk_at "st"
    walk_at "rd"
    refine r_ite (fun h1 => ?_) (fun h1 => ?_)
    · have hk2 : k < ns.length := by simp only [List.length_map] at h1; omega
      have hx : atI (ns.map V.int) (k : Int) = some (.int ns[k]) := atI_nat (by rw [List.getElem?_map, List.getElem?_eq_getElem hk2]; rfl)
      walk_at "rd"
      exact q _
    · walk_at "rd"
      exact q _
def drawOk (szs rs : List Nat) : Prop := rs.length = szs.length ∧ ∀ j (h1 : j < rs.length) (h2 : j < szs.length), rs[j] < szs[j]
def sp_draws (K : PySem.W.Frag) : Sp := fun vs H Q _ => ∃ (c : Int) (k : Nat) (o : Addr) (szs : List Nat), vs = [.int c, .int k, .ref o] ∧ k < 1000 ∧ szs.length ≤ 1000 ∧ H o = some (.lst (vsN szs)) ∧ (∀ z ∈ szs, 0 < z ∧ z ≤ 1000000000) ∧
  ∀ rs l H', drawOk szs rs → H l = none → Same H H' → H' l = some (.lst (vsN rs)) → Q (.ref l) H'
theorem ok_law_draws (T : Txt K mg) : Z.C0 P w K mg base 1 "_law_draws" (sp_draws K) := by
  refine T.d_law_draws.c0 sc_law_draws (fun vs H Q E h => ?_) (Z.bd0 fun _ _ _ _ _ _ us hl => match us, hl with | [_, _, _], _ => rfl) (fun f cdv A outer s H vs Q E hr h => ⟨_, (pss_cons (ps_set (i := 3) sc_law_draws.nd rfl (Or.inl rfl) (pe_callB call_absP rfl T.b_abs (by decide +kernel) (pa_cons (pv 0) pa_nil)))
  (pss_cons (ps_set (i := 4) sc_law_draws.nd rfl (Or.inl rfl) (pe_cmpR op_geI (pv 3) (pe_op op_powI pe_int pe_int) (nomark _)))
  (pss_cons (ps_set (i := 5) sc_law_draws.nd rfl (Or.inl rfl) (pe_op op_modP (pe_op op_mulP (pe_op (k_addP K) (pe_op (k_addP K) (pe_op op_modP (pv 3) pe_int) (pe_op op_mulP pe_int (pv 1))) pe_int) pe_int) pe_int))
  (pss_cons (ps_set (i := 6) sc_law_draws.nd rfl (Or.inl rfl) (pe_lst pa_nil))
  (pss_cons (ps_for PassesOwn.never rfl (k_iE K (by rfl) T.b_enumerate (pa_cons (pv 2) pa_nil)) (k_tup K rfl (pgs_cons (pg_name (i := 7) sc_law_draws.nd rfl (Or.inl rfl)) (pgs_cons (pg_name (i := 8) sc_law_draws.nd rfl (Or.inl rfl)) pgs_nil)))
  (pss_one (ps_if (pt_val (pv 4))
  (pss_cons (ps_expr (k_bm K PySem.F.plainAttrs_list PySem.F.slot_list_append PySem.F.type_list_append mt_append (pv 6) (pa_cons (pe_op op_modP (pv 3) (pv 8)) pa_nil)))
  (pss_one (ps_set (i := 3) sc_law_draws.nd rfl (Or.inl rfl) (pe_op op_div (pv 3) (pv 8))))) (pss_cons (ps_set (i := 5) sc_law_draws.nd rfl (Or.inl rfl) (pe_op op_modP (pe_op (k_addP K) (pe_op (k_addP K) (pe_op op_mulP (pv 5) (pv 5)) (pe_op op_mulP pe_int (pe_op (k_addP K) (pv 1) (pv 7)))) pe_int) pe_int))
  (pss_one (ps_expr (k_bm K PySem.F.plainAttrs_list PySem.F.slot_list_append PySem.F.type_list_append mt_append (pv 6) (pa_cons (pe_op op_modP (pe_op op_div (pv 5) pe_int) (pv 8)) pa_nil))))))))
  (pss_one (ps_ret (pv 6)))))))), ?_⟩)
  · obtain ⟨c, k, o, szs, rfl, _⟩ := h
    rfl
  · obtain ⟨c, k, o, szs, rfl, hk, hz, ho, hs, q⟩ := h
    rw [st_law_draws]
    walk_at "st"
    walk_at "rd"
    intro l H1 hl e1 f1
    walk_at "rd"
    have hm0 : (0 : Int) ≤ (c.natAbs % 1000000007 + 7919 * k + 1) * 48271 % 2147483629 := by omega
    have hm1 : ((c.natAbs : Int) % 1000000007 + 7919 * k + 1) * 48271 % 2147483629 < 2147483629 := by omega
    have hn0 : (0 : Int) ≤ (c.natAbs : Nat) := by omega
    revert hm0 hm1 hn0
    generalize ((c.natAbs : Int) % 1000000007 + 7919 * k + 1) * 48271 % 2147483629 = mx
    generalize decide ((1000000000000000000 : Int) ≤ (c.natAbs : Nat)) = g
    generalize ((c.natAbs : Nat) : Int) = num
    intro hm0 hm1 hn0
    refine forW (walk_enum (xs := vsN szs)) (fun i σ H2 => ∃ (num mx : Int) (rs : List Nat) (z1 z2 : Option V), σ = [some (.int c), some (.int k), some (.ref o), some (.int num), some (.bl g), some (.int mx), some (.ref l), z1, z2] ∧ 0 ≤ num ∧ 0 ≤ mx ∧ mx < 2147483629 ∧ Same H H2 ∧ H2 l = some (.lst (vsN rs)) ∧ rs.length = i ∧ ∀ j (h1 : j < rs.length) (h2 : j < szs.length), rs[j] < szs[j])
      ⟨num, mx, [], none, none, rfl, hn0, hm0, hm1, e1, f1, rfl, fun j h1 _ => absurd h1 (Nat.not_lt_zero _)⟩ (fun i σ H2 _ ⟨_, _, _, _, _, _, _, _, _, e, _⟩ => by walk_at "lk") ?_ ?_
    · rintro i x σ H2 H3 hi ⟨num, mx, rs, z1, z2, rfl, hn0, hm0, hm1, e2, f2, hr1, hr2⟩ y
      obtain ⟨T1, x1, x2, rfl, hT, rfl, hx1, hx2⟩ := y
      have e3 : Same H2 (upd H2 T1 (.tup [x1, x2])) := Same.new hT
      have f3 : (upd H2 T1 (.tup [x1, x2])) T1 = some (.tup [x1, x2]) := upd_same
      revert e3 f3
      generalize upd H2 T1 (.tup [x1, x2]) = H3
      intro e3 f3
      obtain rfl : V.int (i : Nat) = x1 := Option.some.inj hx1
      have hi2 : i < szs.length := by
        unfold vsN at hi
        rw [List.length_map] at hi
        exact hi
      obtain rfl : V.int (szs[i] : Nat) = x2 := by
        have hx2 : (vsN szs)[i]? = some x2 := hx2
        unfold vsN at hx2
        rw [List.getElem?_map, List.getElem?_eq_getElem hi2] at hx2
        exact Option.some.inj hx2
      obtain ⟨hs1, hs2⟩ := hs szs[i] (List.getElem_mem hi2)
      have f5 : H3 l = some (.lst (vsN rs)) := e3 _ _ f2
      have next : ∀ (n : Nat), n < szs[i] → ∀ j (h1 : j < (rs ++ [n]).length) (h2 : j < szs.length), (rs ++ [n])[j] < szs[j] := fun n hn j h1 h2 => by
        by_cases hj : j < rs.length
        · rw [List.getElem_append_left hj]
          exact hr2 j hj h2
        · rw [List.length_append, List.length_singleton] at h1
          have : j = i := by omega
          subst this
          rw [List.getElem_append_right (by omega)]
          simp only [List.getElem_singleton]
          exact hn
      have vs1 : ∀ n : Nat, vsN rs ++ [V.int (n : Nat)] = vsN (rs ++ [n]) := fun n => by
        unfold vsN
        rw [List.map_append]
        rfl
      have hvl : (vsN rs).length = i := by
        unfold vsN
        rw [List.length_map, hr1]
      have e4 : Same H H3 := e2.trans e3
      clear e2
      walk_at "rd"
      cases g with
      | true =>
        walk_at "rd"
        intro H4 b4 f4
        have e5 : Same H H4 := Same.but b4 hl e4
        walk_at "rd"
        have hv := Int.emod_lt_of_pos num (show (0 : Int) < (szs[i] : Nat) by omega)
        have hv0 := Int.emod_nonneg num (show ((szs[i] : Nat) : Int) ≠ 0 by omega)
        have hd0 : 0 ≤ num / ((szs[i] : Nat) : Int) := Int.ediv_nonneg hn0 (by omega)
        obtain ⟨n, hn⟩ : ∃ n : Nat, num % ((szs[i] : Nat) : Int) = n := ⟨(num % ((szs[i] : Nat) : Int)).toNat, by omega⟩
        rw [hn] at f4 hv
        rw [vs1] at f4
        exact ⟨_, mx, rs ++ [n], _, _, rfl, hd0, hm0, hm1, e5, f4, by rw [List.length_append, hr1]; rfl, next n (by omega)⟩
      | false =>
        walk_at "rd"
        intro H4 b4 f4
        have e5 : Same H H4 := Same.but b4 hl e4
        walk_at "rd"
        revert f4
        generalize hmx : (mx * mx + 104729 * ((k : Int) + (i : Int)) + 11) % 2147483587 = m2
        intro f4
        have hm2 : 0 ≤ m2 ∧ m2 < 2147483629 := by
          generalize mx * mx + 104729 * ((k : Int) + (i : Int)) + 11 = mm at hmx
          omega
        have hv := Int.emod_lt_of_pos (m2 / 16) (show (0 : Int) < (szs[i] : Nat) by omega)
        have hv0 := Int.emod_nonneg (m2 / 16) (show ((szs[i] : Nat) : Int) ≠ 0 by omega)
        obtain ⟨n, hn⟩ : ∃ n : Nat, m2 / 16 % ((szs[i] : Nat) : Int) = n := ⟨(m2 / 16 % ((szs[i] : Nat) : Int)).toNat, by omega⟩
        rw [hn] at f4 hv
        rw [vs1] at f4
        exact ⟨num, m2, rs ++ [n], _, _, rfl, hn0, hm2.1, hm2.2, e5, f4, by rw [List.length_append, hr1]; rfl, next n (by omega)⟩
    · rintro σ H2 ⟨num, mx, rs, z1, z2, rfl, hn0, hm0, hm1, e2, f2, hr1, hr2⟩
      walk_at "rd"
      refine q rs l H2 ⟨?_, hr2⟩ hl e2 f2
      rw [hr1]
      unfold vsN
      rw [List.length_map]
end
end My

namespace My
open PySem PySem.Spec PyProof.Rows L2 Z M SX TL
section
variable {P : Program} {w : World} {K : PySem.W.Frag} {mg : Str → Option Value} {base : Heap}
theorem at_vs {rs : List Nat} {i : Int} {n : Nat} (h : i = n) (hn : n < rs.length) : atI (vsN rs) i = some (.int (rs[n] : Nat)) := by
  subst h
  refine atI_nat ?_
  unfold vsN
  rw [List.getElem?_map, List.getElem?_eq_getElem hn]
  rfl
instance {x : Str} {n : Int} : Decidable (MulOk x n) := by
  unfold MulOk
  infer_instance
theorem mulC : ∀ c ∈ [98, 122], ∀ n : Fin 33, MulOk (S [c]) (n.1 : Nat) ∧ tl (Txt.mul (S [c]) (n.1 : Nat)) = List.replicate n.1 c := by decide +kernel
theorem abc_at : ∀ i : Fin 26, (Str.ofString "abcdefghijklmnopqrstuvwxyz").cps.toList[i.1]? = some (97 + i.1) := by decide +kernel
/-- the names drawn -/
def wname (r k : Nat) : Str := S ((97 + (r + k) % 26) :: List.replicate (k % 8 * (r % 2)) 122)
theorem wname_ok (r k : Nat) : nameOk (wname r k) = true := by
  have h1 : k % 8 * (r % 2) ≤ 7 := by
    have : r % 2 = 0 ∨ r % 2 = 1 := by omega
    rcases this with e | e <;> rw [e] <;> omega
  have e : tl (wname r k) = (97 + (r + k) % 26) :: List.replicate (k % 8 * (r % 2)) 122 := rfl
  unfold nameOk
  rw [e, List.length_cons, List.length_replicate, decide_eq_true (by omega), Bool.true_and, List.all_cons, Bool.and_eq_true_iff]
  refine ⟨decide_eq_true (by omega), List.all_eq_true.mpr fun x hx => ?_⟩
  rw [(List.mem_replicate.mp hx).2]
  decide
theorem wname_nd (r m : Nat) (h : m ≤ 20) : ((List.range m).map (wname r)).Nodup := by
  refine List.Pairwise.map (R := fun a b => a < m ∧ b < m ∧ a ≠ b) _ (fun a b h e => ?_) ?_
  · obtain ⟨ha, hb, hn⟩ := h
    have := (List.cons.inj (SX.S_inj e)).1
    omega
  · refine List.Pairwise.imp_of_mem (R := (· ≠ ·)) (fun ha hb h => ⟨List.mem_range.mp ha, List.mem_range.mp hb, h⟩) ?_
    exact List.nodup_range
def sp_wants (K : PySem.W.Frag) : Sp := fun vs H Q _ => ∃ (a : Addr) (ns : List Int) (at_ many : Nat), vs = [.ref a, .int at_, .int many] ∧ SqL K H a (ns.map V.int) ∧ at_ < 1000 ∧ 1 ≤ many ∧ many ≤ 20 ∧
  ∀ ws l xs H', WsOk ws → ws.length = many → H l = none → Same H H' → H' l = some (.lst xs) → DqAll H' xs (wsD ws) → Q (.ref l) H'
theorem ok_law_wants (T : Txt K mg) : Z.C0 P w K mg base 2 "_law_wants" (sp_wants K) := by
  refine T.d_law_wants.c0 sc_law_wants (fun vs H Q E h => ?_) (Z.bd0 fun _ _ _ _ _ _ us hl => match us, hl with | [_, _, _], _ => rfl) (fun f cdv A outer s H vs Q E hr h => ⟨_, (pss_cons (ps_set (i := 3) sc_law_wants.nd rfl (Or.inl rfl) (pe_c0 (ok_law_draws T) hr (by decide) rfl (pa_cons (pe_c0 (ok_law_cell T) hr (by decide) rfl (pa_cons (pv 0) (pa_cons (pv 1) pa_nil))) (pa_cons (pv 1) (pa_cons (pe_op (k_addP K) (pe_lst (pa_cons pe_int (pa_cons pe_int pa_nil))) (pe_op op_mulP (pe_lst (pa_cons pe_int (pa_cons (pe_op op_powI pe_int pe_int) pa_nil))) (pv 2))) pa_nil)))))
  (pss_cons (ps_set (i := 4) sc_law_wants.nd rfl (Or.inl rfl) pe_str)
  (pss_cons (ps_set (i := 5) sc_law_wants.nd rfl (Or.inl rfl) (pe_lst pa_nil))
  (pss_cons (ps_for PassesOwn.never rfl (pi_range1 rfl T.b_range (pa_cons (pv 2) pa_nil)) (pg_name (i := 6) sc_law_wants.nd rfl (Or.inl rfl))
  (pss_cons (ps_set (i := 7) sc_law_wants.nd rfl (Or.inl rfl) (pe_ix (k_ix K) (pe_lst (pa_cons (pe_ix (k_ix K) (pv 3) (pe_op (k_addP K) pe_int (pe_op op_mulP pe_int (pv 6))) (fun _ _ => rfl)) (pa_cons (pe_ix (k_ix K) (pv 3) (pe_op (k_addP K) pe_int (pe_op op_mulP pe_int (pv 6))) (fun _ _ => rfl)) (pa_cons (pe_op (k_addP K) (pe_ix (k_ix K) (pv 3) (pe_op (k_addP K) pe_int (pe_op op_mulP pe_int (pv 6))) (fun _ _ => rfl)) pe_int) (pa_cons pe_int pa_nil))))) (pe_ix (k_ix K) (pv 3) pe_int (fun _ _ => rfl)) (fun _ _ => rfl)))
  (pss_cons (ps_set (i := 8) sc_law_wants.nd rfl (Or.inl rfl) (pe_op (k_addP K) (pe_ix (k_ix K) (pv 4) (pe_op op_modP (pe_op (k_addP K) (pe_ix (k_ix K) (pv 3) pe_int (fun _ _ => rfl)) (pv 6)) pe_int) (fun _ _ => rfl)) (pe_op op_mulS pe_str (pe_op op_mulP (pe_op op_modP (pv 6) pe_int) (pe_op op_modP (pe_ix (k_ix K) (pv 3) pe_int (fun _ _ => rfl)) pe_int)))))
  (pss_one (ps_expr (k_bm K PySem.F.plainAttrs_list PySem.F.slot_list_append PySem.F.type_list_append mt_append (pv 5) (pa_cons (pe_tup (pa_cons (pv 8) (pa_cons (pv 7) pa_nil))) pa_nil)))))))
  (pss_one (ps_ret (pv 5))))))), ?_⟩)
  · obtain ⟨a, ns, at_, many, rfl, _⟩ := h
    rfl
  · obtain ⟨a, ns, at_, many, rfl, ha, h1, hm1, hm2, q⟩ := h
    rw [st_law_wants]
    walk_at "st"
    walk_at "rd"
    refine ⟨a, ns, at_, rfl, ha, fun c => ?_⟩
    walk_at "rd"
    intro l1 H1 hl1 e1 f1
    walk_at "rd"
    intro l2 H2 hl2 e2 f2
    walk_at "rd"
    refine r_rep (xs := [V.int 9, V.int 1000000000]) (by walk_at "lk") (by simp only [List.length_cons, List.length_nil]; omega) (by omega) (fun l3 H3 hl3 e3 f3 => ?_)
    refine r_addL (xs := [V.int 4, V.int 26]) (ys := (List.replicate many [V.int 9, V.int 1000000000]).flatten) (by walk_at "lk") f3 (fun l4 H4 hl4 e4 f4 => ?_) (szl (by simp; omega))
    have fz : ([V.int 4, V.int 26] ++ (List.replicate many [V.int 9, V.int 1000000000]).flatten) = vsN ([4, 26] ++ (List.replicate many [9, 1000000000]).flatten) := by
      unfold vsN
      rw [List.map_append, List.map_flatten, List.map_replicate]
      rfl
    rw [fz] at f4
    walk_at "rd"
    refine ⟨c, at_, l4, [4, 26] ++ (List.replicate many [9, 1000000000]).flatten, rfl, h1, by simp; omega, f4, fun z hz => ?_, fun rs o1 H5 hd ho5 e5 f5 => ?_⟩
    · rcases List.mem_append.mp hz with hz | hz
      · simp only [List.mem_cons, List.not_mem_nil, or_false] at hz
        rcases hz with rfl | rfl <;> decide
      · obtain ⟨l, hl, hz⟩ := List.mem_flatten.mp hz
        rw [(List.mem_replicate.mp hl).2] at hz
        simp only [List.mem_cons, List.not_mem_nil, or_false] at hz
        rcases hz with rfl | rfl <;> decide
    have hsz : ([4, 26] ++ (List.replicate many [9, 1000000000]).flatten).length = 2 + 2 * many := by simp; omega
    obtain ⟨hr1, hr2⟩ := hd
    rw [hsz] at hr1
    have hbig : ∀ z ∈ ([4, 26] ++ (List.replicate many [9, 1000000000]).flatten), z ≤ 1000000000 := fun z hz => by
      rcases List.mem_append.mp hz with hz | hz
      · simp only [List.mem_cons, List.not_mem_nil, or_false] at hz
        rcases hz with rfl | rfl <;> decide
      · obtain ⟨l, hl, hz⟩ := List.mem_flatten.mp hz
        rw [(List.mem_replicate.mp hl).2] at hz
        simp only [List.mem_cons, List.not_mem_nil, or_false] at hz
        rcases hz with rfl | rfl <;> decide
    have hr3 : ∀ j (h : j < rs.length), rs[j] < 1000000000 := fun j h => Nat.lt_of_lt_of_le (hr2 j h (by omega)) (hbig _ (List.getElem_mem _))
    have hr4 : rs[0] < 4 := hr2 0 (by omega) (by omega)
    have hr5 : rs[1] < 26 := hr2 1 (by omega) (by omega)
    clear hr2
    have e6 : Same H H5 := e1.trans (e2.trans (e3.trans (e4.trans e5)))
    clear e1 e2 e3 e4 e5 f1 f2 f3 f4 hl1 hl2 hl3 hl4 ho5 hbig hsz
    walk_at "rd"
    intro l H6 hl e7 f6
    walk_at "rd"
    have hlH : H l = none := Z.fr hl e6
    have f5' : H6 o1 = some (.lst (vsN rs)) := e7 _ _ f5
    refine forW walk_r0 (fun i σ H2 => ∃ (ws : List (Str × Nat)) (xs : List V) (z6 z7 z8 : Option V), σ = [some (.ref a), some (.int at_), some (.int many), some (.ref o1), some (.str (Str.ofString "abcdefghijklmnopqrstuvwxyz")), some (.ref l), z6, z7, z8] ∧ Same H5 H2 ∧ H2 l = some (.lst xs) ∧
      xs.length = i ∧ DqAll (L2.del H2 l) xs (wsD ws) ∧ ws.map (·.1) = (List.range i).map (wname rs[1]) ∧ ∀ w ∈ ws, w.2 ≤ 1000000000) ⟨[], [], none, none, none, rfl, e7, f6, rfl, .nil, rfl, fun w hw => absurd hw List.not_mem_nil⟩ (fun _ _ _ _ _ => trivial) ?_ ?_
    · rintro i x σ _ H2 hi ⟨ws, xs, z6, z7, z8, rfl, e8, f8, hx, hd, hw, hc⟩ ⟨rfl, rfl⟩
      have f9 : H2 o1 = some (.lst (vsN rs)) := e8 _ _ f5
      have a1 : atI (vsN rs) (2 + 2 * (i : Int)) = some (.int (rs[2 + 2 * i] : Nat)) := at_vs (by omega) (by omega)
      have a2 : atI (vsN rs) (3 + 2 * (i : Int)) = some (.int (rs[3 + 2 * i] : Nat)) := at_vs (by omega) (by omega)
      have a3 : atI (vsN rs) 0 = some (.int (rs[0] : Nat)) := at_vs (by omega) (by omega)
      have a4 : atI (vsN rs) 1 = some (.int (rs[1] : Nat)) := at_vs (by omega) (by omega)
      walk_at "rd"
      intro T1 G1 n1 s1 g1
      walk_at "rd"
      obtain ⟨v, hv, hm⟩ := at_in (xs := [V.int (rs[2 + 2 * i] : Nat), V.int (rs[2 + 2 * i] : Nat), V.int ((rs[3 + 2 * i] : Nat) + 1), V.int 3]) (z := (rs[0] : Nat)) (by omega) (by simp only [List.length_cons, List.length_nil]; omega)
      obtain ⟨cn, rfl, hcn⟩ : ∃ n : Nat, v = .int n ∧ n ≤ 1000000000 := by
        have q1 := hr3 (2 + 2 * i) (by omega)
        have q2 := hr3 (3 + 2 * i) (by omega)
        simp only [List.mem_cons, List.not_mem_nil, or_false] at hm
        rcases hm with rfl | rfl | rfl | rfl
        · exact ⟨_, rfl, by omega⟩
        · exact ⟨_, rfl, by omega⟩
        · exact ⟨rs[3 + 2 * i] + 1, rfl, by omega⟩
        · exact ⟨3, rfl, by omega⟩
      walk_at "rd"
      refine r_ixS (c := 97 + (rs[1] + i) % 26) (by decide +kernel) ?_ ?_
      · have := abc_at ⟨(rs[1] + i) % 26, by omega⟩
        have e : (((rs[1] : Nat) : Int) + ((i : Nat) : Int)) % (26 : Int) = (((rs[1] + i) % 26 : Nat) : Int) := by omega
        rw [e]
        exact atI_nat this
      walk_at "rd"
      have h7 : i % 8 * (rs[1] % 2) ≤ 7 := by
        have : rs[1] % 2 = 0 ∨ rs[1] % 2 = 1 := by omega
        rcases this with e | e <;> rw [e] <;> omega
      have e2 : ((i : Nat) : Int) % (8 : Int) * (((rs[1] : Nat) : Int) % (2 : Int)) = ((i % 8 * (rs[1] % 2) : Nat) : Int) := by
        rw [Int.natCast_mul, Int.natCast_emod, Int.natCast_emod]
        first | done | rfl
      obtain ⟨mo, mt⟩ := mulC 122 (by decide) ⟨i % 8 * (rs[1] % 2), by omega⟩
      have en : (⟨#[97 + (rs[1] + i) % 26]⟩ : Str) ++ Txt.mul (S [122]) ((i % 8 * (rs[1] % 2) : Nat) : Int) = wname rs[1] i := ext_tl (by rw [tl_append, mt]; rfl)
      have hml : (Txt.mul (S [122]) ((i % 8 * (rs[1] % 2) : Nat) : Int)).length ≤ 7 := by
        rw [len_tl, mt, List.length_replicate]
        exact h7
      have hnl : (wname rs[1] i).length ≤ 1000000 := by
        rw [← en, Z.len_app]
        have : (⟨#[97 + (rs[1] + i) % 26]⟩ : Str).length = 1 := rfl
        omega
      rw [e2, show Str.ofString "z" = S [122] by decide +kernel]
      refine r_mulS ?_ mo
      refine r_addS ?_ (szl (by
        have : (⟨#[97 + (rs[1] + i) % 26]⟩ : Str).length = 1 := rfl
        omega))
      rw [en]
      walk_at "rd"
      intro T2 G2 n2 s2 g2
      have f8' : G2 l = some (.lst xs) := s2 _ _ (s1 _ _ f8)
      walk_at "rd"
      intro G3 b3 f3
      have nT : T2 ≠ l := (ne1 n2 (s1 _ _ f8)).symm
      have d1 : DqAll (L2.del G3 l) xs (wsD ws) := hd.up ((delS (s1.trans s2)).trans (delB b3))
      have d2 : Dq (L2.del G3 l) (.ref T2) (wantD (wname rs[1] i, cn)) := .tup (delB b3 _ _ (delG g2 nT)) (.cons (.str _ hnl) (.cons (.int _) .nil)) (by simp)
      refine ⟨ws ++ [(wname rs[1] i, cn)], xs ++ [.ref T2], _, _, _, rfl, Same.but b3 hl (e8.trans (s1.trans s2)), f3, by rw [List.length_append, hx]; rfl, ?_, ?_, ?_⟩
      · unfold wsD
        rw [List.map_append]
        exact DqAll.app d1 (.cons d2 .nil)
      · rw [List.map_append, hw, List.range_succ, List.map_append]
        rfl
      · intro v hv
        rcases List.mem_append.mp hv with hv | hv
        · exact hc v hv
        · rw [List.mem_singleton.mp hv]
          exact hcn
    · rintro σ H2 ⟨ws, xs, z6, z7, z8, rfl, e8, f8, hx, hd, hw, hc⟩
      walk_at "rd"
      have hwl : ws.length = many := by
        have := congrArg List.length hw
        rw [List.length_map, List.length_map, List.length_range] at this
        omega
      refine q ws l xs H2 ⟨by omega, by omega, ?_, fun w hw2 => ?_, hc⟩ hwl hlH (e6.trans e8) f8 (hd.up del_sub)
      · rw [hw]
        exact wname_nd _ _ (by omega)
      · have : w.1 ∈ ws.map (·.1) := List.mem_map.mpr ⟨w, hw2, rfl⟩
        rw [hw] at this
        obtain ⟨k, _, e⟩ := List.mem_map.mp this
        rw [← e]
        exact wname_ok _ _
theorem eraseMap {α β : Type} (f : α → β) : ∀ (l : List α) (i : Nat), (l.map f).eraseIdx i = (l.eraseIdx i).map f
  | [], _ => rfl
  | _ :: _, 0 => rfl
  | a :: l, i + 1 => congrArg (f a :: ·) (eraseMap f l i)
theorem erasePerm {α : Type} : ∀ (l : List α) (i : Nat) (h : i < l.length), (l[i] :: l.eraseIdx i).Perm l
  | [], _, h => absurd h (Nat.not_lt_zero _)
  | _ :: _, 0, _ => .refl _
  | a :: l, i + 1, h => (List.Perm.swap a _ _).trans (.cons a (erasePerm l i (Nat.lt_of_succ_lt_succ h)))
def sp_order (K : PySem.W.Frag) : Sp := fun vs H Q _ => ∃ (c : Int) (k m : Nat), vs = [.int c, .int k, .int m] ∧ k < 1000 ∧ m ≤ 20 ∧
  ∀ js l H', js.Perm (List.range m) → H l = none → Same H H' → H' l = some (.lst (vsN js)) → Q (.ref l) H'
theorem ok_law_order (T : Txt K mg) : Z.C0 P w K mg base 2 "_law_order" (sp_order K) := by
  refine T.d_law_order.c0 sc_law_order (fun vs H Q E h => ?_) (Z.bd0 fun _ _ _ _ _ _ us hl => match us, hl with | [_, _, _], _ => rfl) (fun f cdv A outer s H vs Q E hr h => ⟨_, (pss_cons (ps_set (i := 3) sc_law_order.nd rfl (Or.inl rfl) (pe_listRg rfl rfl T.b_list (prg_1 rfl T.b_range (pv 2))))
  (pss_cons (ps_set (i := 4) sc_law_order.nd rfl (Or.inl rfl) (pe_lst pa_nil))
  (pss_cons (ps_for PassesOwn.never rfl (k_iL K (pe_c0 (ok_law_draws T) hr (by decide) rfl (pa_cons (pv 0) (pa_cons (pv 1) (pa_cons (pe_lc (own := [("_law_j", 6)]) rfl sc_law_order.nd (pi_range1 rfl T.b_range (pa_cons (pv 2) pa_nil)) (blkOk_by (N := ["_law_cell_here", "_law_k", "_law_many", "_law_left", "_law_found", "_law_place", "_law_j"]) (sc := defScope s_law_order) (by decide +kernel)) (fun _ _ _ _ _ => (pg_name (i := 6) sc_law_order.nd rfl (Or.inl rfl))) (fun _ _ _ _ _ => pts_nil) (fun _ _ _ _ _ => (pe_op op_subI (pv 2) (pv 6)))) pa_nil))))) (pg_name (i := 5) sc_law_order.nd rfl (Or.inl rfl))
  (pss_one (ps_expr (k_bm K PySem.F.plainAttrs_list PySem.F.slot_list_append PySem.F.type_list_append mt_append (pv 4) (pa_cons (k_bm K PySem.F.plainAttrs_list PySem.F.slot_list_pop PySem.F.type_list_pop mt_popAt (pv 3) (pa_cons (pv 5) pa_nil)) pa_nil)))))
  (pss_one (ps_ret (pv 4)))))), ?_⟩)
  · obtain ⟨c, k, m, rfl, _⟩ := h
    rfl
  · obtain ⟨c, k, m, rfl, hk, hm, q⟩ := h
    rw [st_law_order]
    walk_at "st"
    walk_at "rd"
    refine ⟨RgOk.of_le (by decide) (by omega) (by decide) (by omega), fun l1 hl1 => ?_⟩
    have e1 : Same H (upd H l1 (.lst (rgV 0 (m : Int)))) := Same.new hl1
    have f1 : (upd H l1 (.lst (rgV 0 (m : Int)))) l1 = some (.lst (rgV 0 (m : Int))) := upd_same
    revert e1 f1
    generalize upd H l1 (.lst (rgV 0 (m : Int))) = H1
    intro e1 f1
    have er : rgV 0 (m : Int) = vsN (List.range m) := by
      rw [rgV_eq]
      unfold rgL vsN
      rw [List.map_map]
      rfl
    rw [er] at f1
    walk_at "rd"
    intro l2 H2 hl2 e2 f2
    walk_at "rd"
    refine lcW walk_r0 (fun i acc _ => acc = vsN ((List.range i).map fun j => m - j)) rfl (fun _ _ => trivial) (fun _ _ => rfl) ?_ ?_
    · rintro i x acc Dl H3 _ hi hD e3 e4 hl3 rfl ⟨rfl, rfl⟩
      walk_at "rd"
      refine lc_put (by omega) hD e3 e4 hl3 fun H5 _ _ => ?_
      rw [List.range_succ, List.map_append]
      unfold vsN
      rw [List.map_append]
      congr 2
      show V.int ((m : Int) - (i : Int)) = V.int ((m - i : Nat) : Int)
      congr 1
      have : i < m := by omega
      omega
    · rintro acc Dl H3 hD e3 e4 rfl
      rw [show ((m : Int)).toNat = m by omega] at e4
      walk_at "rd"
      refine ⟨c, k, Dl, (List.range m).map fun j => m - j, rfl, hk, by simp; omega, e4, fun z hz => ?_, fun rs o1 H4 hd ho4 e5 f4 => ?_⟩
      · obtain ⟨j, hj, rfl⟩ := List.mem_map.mp hz
        rw [List.mem_range] at hj
        omega
      obtain ⟨hr1, hr2⟩ := hd
      rw [List.length_map, List.length_range] at hr1
      have hr3 : ∀ j (h : j < rs.length), rs[j] < m - j := fun j h => by
        have := hr2 j h (by simp; omega)
        simpa using this
      clear hr2
      have g1 : H4 l1 = some (.lst (vsN (List.range m))) := by walk_at "lk"
      have g2 : H4 l2 = some (.lst (vsN [])) := by walk_at "lk"
      have n12 : l2 ≠ l1 := by walk_at "ne"
      have no1 : o1 ≠ l1 := by walk_at "ne"
      have no2 : o1 ≠ l2 := by walk_at "ne"
      have e6 : Same H H4 := by walk_at "sm"
      have hl2' : H l2 = none := Z.fr hl2 e1
      clear e1 e2 e3 e4 e5 f1 f2
      walk_at "rd"
      refine forW (walk_list (xs := vsN rs)) (fun i σ H2 => ∃ (F L : List Nat) (z5 z6 : Option V), σ = [some (.int c), some (.int k), some (.int m), some (.ref l1), some (.ref l2), z5, z6] ∧ H2 o1 = some (.lst (vsN rs)) ∧ Same H H2 ∧ H2 l1 = some (.lst (vsN L)) ∧ H2 l2 = some (.lst (vsN F)) ∧ F.length = i ∧ L.length = m - i ∧ (F ++ L).Perm (List.range m))
        ⟨[], List.range m, none, none, rfl, f4, e6, g1, g2, rfl, by simp, List.Perm.refl _⟩ (fun i σ H2 _ ⟨_, _, _, _, _, e, _⟩ => by walk_at "lk") ?_ ?_
      · rintro i x σ H5 H6 hi ⟨F, L, z5, z6, rfl, e7, e8, e9, e10, hF, hL, hp⟩ y
        obtain ⟨rfl, hx⟩ := y
        have hi2 : i < rs.length := by
          unfold vsN at hi
          rw [List.length_map] at hi
          exact hi
        obtain rfl : V.int (rs[i] : Nat) = x := by
          have hx : (vsN rs)[i]? = some x := hx
          unfold vsN at hx
          rw [List.getElem?_map, List.getElem?_eq_getElem hi2] at hx
          exact Option.some.inj hx
        have hri := hr3 i hi2
        have hL2 : rs[i] < L.length := by omega
        have hpop : (vsN L)[rs[i]]? = some (.int (L[rs[i]] : Nat)) := by
          unfold vsN
          rw [List.getElem?_map, List.getElem?_eq_getElem hL2]
          rfl
        walk_at "rd"
        refine r_popAt (n := rs[i]) e9 (by omega) hpop (fun H7 b7 f7 => ?_)
        have g2 : H7 l2 = some (.lst (vsN F)) := b7 _ _ n12 e10
        have g3 : (vsN F).length ≤ 20 := by
          unfold vsN
          rw [List.length_map]
          omega
        walk_at "rd"
        intro H8 b8 f8
        refine ⟨F ++ [L[rs[i]]], L.eraseIdx rs[i], _, _, rfl, b8 _ _ no2 (b7 _ _ no1 e7), Same.but b8 hl2' (Same.but b7 hl1 e8), ?_, ?_, ?_, ?_, ?_⟩
        · have := b8 _ _ (Ne.symm n12) f7
          rw [this]
          unfold vsN
          exact congrArg (fun z => some (HO.lst z)) (eraseMap _ _ _)
        · rw [f8]
          unfold vsN
          rw [List.map_append]
          rfl
        · rw [List.length_append, hF]
          rfl
        · rw [List.length_eraseIdx_of_lt hL2]
          omega
        · refine List.Perm.trans ?_ hp
          rw [List.append_assoc]
          exact List.Perm.append_left F (erasePerm L _ hL2)
      · rintro σ H5 ⟨F, L, z5, z6, rfl, e7, e8, e9, e10, hF, hL, hp⟩
        walk_at "rd"
        have hv : (vsN rs).length = m := by
          unfold vsN
          rw [List.length_map]
          exact hr1
        have : L = [] := List.length_eq_zero_iff.mp (by omega)
        rw [this, List.append_nil] at hp
        exact q F l2 H5 hp hl2' e8 e10
def sp_noturn : Sp := fun vs H Q _ => ∃ a, vs = [.ref a] ∧ H a = some (ExH (.ref (He.ga K "NoTurn")) none a) ∧ ∀ H', Same H H' → Q (.bl true) H'
theorem ok_law_is_no_turn (T : Txt K mg) : Z.C0 P w K mg base 3 "_law_is_no_turn" (sp_noturn (K := K)) := by
  refine T.d_law_is_no_turn.c0 sc_law_is_no_turn (fun vs H Q E h => ?_) (Z.bd0 fun _ _ _ _ _ _ us hl => match us, hl with | [_], _ => rfl) (fun f cdv A outer s H vs Q E hr h => ⟨_, (pss_cons (ps_if (PW.pt (pw_or (pt_not (pt_val (pe_callB (k_isiX K) rfl T.b_isinstance (by decide +kernel) (pa_cons (pv 0) (pa_cons (pe_glob (v := .ref (He.ga K "NoTurn")) rfl T.k_NoTurn rfl) pa_nil))))) (pw_or1 (pt_not (pt_val (pe_callB (k_isiX K) rfl T.b_isinstance (by decide +kernel) (pa_cons (pv 0) (pa_cons (pe_bltn (v := .ty "ValueError") rfl T.b_ValueError (by decide +kernel) rfl) pa_nil))))))))
  (pss_one (ps_ret pe_bl)) pss_nil)
  (pss_cons (ps_set (i := 1) sc_law_is_no_turn.nd rfl (Or.inl rfl) (pe_callB (k_isiXT K) rfl T.b_isinstance (by decide +kernel) (pa_cons (pv 0) (pa_cons (pe_tup (pa_cons (pe_glob (v := .ref (He.ga K "NoBook")) rfl T.k_NoBook rfl) (pa_cons (pe_glob (v := .ref (He.ga K "NoTongue")) rfl T.k_NoTongue rfl) (pa_cons (pe_glob (v := .ref (He.ga K "NoWants")) rfl T.k_NoWants rfl) (pa_cons (pe_glob (v := .ref (He.ga K "NoTree")) rfl T.k_NoTree rfl) (pa_cons (pe_glob (v := .ref (He.ga K "TooMany")) rfl T.k_TooMany rfl) (pa_cons (pe_glob (v := .ref (He.ga K "NoUndo")) rfl T.k_NoUndo rfl) (pa_cons (pe_glob (v := .ref (He.ga K "NoCount")) rfl T.k_NoCount rfl) (pa_cons (pe_glob (v := .ref (He.ga K "NoNumber")) rfl T.k_NoNumber rfl) (pa_cons (pe_glob (v := .ref (He.ga K "NoRow")) rfl T.k_NoRow rfl) (pa_cons (pe_glob (v := .ref (He.ga K "NoText")) rfl T.k_NoText rfl) pa_nil))))))))))) pa_nil))))
  (pss_one (ps_ret (pe_and (pe_not (pv 1)) (pe_one (pe_not (pe_callB (k_isiXT K) rfl T.b_isinstance (by decide +kernel) (pa_cons (pv 0) (pa_cons (pe_tup (pa_cons (pe_glob (v := .ref (He.ga K "Unknown")) rfl T.k_Unknown rfl) (pa_cons (pe_glob (v := .ref (He.ga K "NoThing")) rfl T.k_NoThing rfl) (pa_cons (pe_glob (v := .ref (He.ga K "BadSign")) rfl T.k_BadSign rfl) pa_nil)))) pa_nil)))))))))), ?_⟩)
  · obtain ⟨a, rfl, _⟩ := h
    rfl
  · obtain ⟨a, rfl, f2, q⟩ := h
    rw [st_law_is_no_turn]
    walk_at "st"
    walk_at "rd"
    have dv : ∀ {H3 : Hp}, DictV H3 none := .inl rfl
    refine r_isX true (x := "NoTurn") (y := "NoTurn") T.ex (by decide +kernel) (by decide +kernel) f2 dv ?_
    walk_at "rd"
    refine r_isXv (x := "NoTurn") T.ex (by decide +kernel) f2 dv ?_
    walk_at "rd"
    intro t1 H3 n3 e3 f4
    walk_at "rd"
    refine r_isXT false ["NoBook", "NoTongue", "NoWants", "NoTree", "TooMany", "NoUndo", "NoCount", "NoNumber", "NoRow", "NoText"] (x := "NoTurn") T.ex (by decide +kernel) (by decide +kernel) (e3 _ _ f2) dv f4 ?_
    walk_at "rd"
    intro t2 H4 n4 e4 f5
    walk_at "rd"
    refine r_isXT false ["Unknown", "NoThing", "BadSign"] (x := "NoTurn") T.ex (by decide +kernel) (by decide +kernel) (e4 _ _ (e3 _ _ f2)) dv f5 ?_
    walk_at "rd"
    exact q _ (by walk_at "sm")
end
end My

namespace My
open PySem PySem.Spec PyProof.Rows L2 Z M SX TL
section
variable {P : Program} {w : World} {K : PySem.W.Frag} {mg : Str → Option Value} {base : Heap}
theorem len_vsN (js : List Nat) : (vsN js).length = js.length := by
  unfold vsN
  rw [List.length_map]
def dsN (js : List Nat) : List PyData := js.map fun j : Nat => PyData.int (j : Int)
theorem dsN_ofN (js : List Nat) : dsN js = (ofN js).map PyData.int := by
  unfold dsN ofN
  rw [List.map_map]
  rfl
theorem dqN {H : Hp} : ∀ js : List Nat, DqAll H (vsN js) (dsN js)
  | [] => .nil
  | j :: js => .cons (.int _) (dqN js)
theorem vs_drop (js : List Nat) (k : Nat) : (vsN js).drop k = vsN (js.drop k) := by
  unfold vsN
  rw [List.map_drop]
theorem vs_dropL (js : List Nat) : (vsN js).dropLast = vsN js.dropLast := by
  unfold vsN
  rw [List.map_dropLast]
theorem cut1 (js : List Nat) : cutV (vsN js) (some 1) none = vsN (js.drop 1) := (cut_from (vsN js) 1).trans (vs_drop js 1)
theorem cutm (js : List Nat) : cutV (vsN js) none (some (-1)) = vsN js.dropLast := (cut_neg1 (vsN js)).trans (vs_dropL js)
theorem layN (js : List Nat) : PyData.canLayAll0 (dsN js) = true := by rw [dsN_ofN]; exact shapedL _
theorem depN (js : List Nat) : PyData.depthAll (dsN js) = 0 := by rw [dsN_ofN]; exact depthL _
structure Bad (m : Nat) (js : List Nat) (d : PyData) : Prop where
  o : ordOk m d = false ∨ d = .list (dsN js)
  s : d = .dict [] ∨ SeqAt.shaped d = true
theorem ofN_inj {a b : List Nat} (h : ofN a = ofN b) : a = b := by
  have := congrArg (List.map Int.toNat) h
  unfold ofN at this
  rw [List.map_map, List.map_map, show (Int.toNat ∘ fun j : Nat => (j : Int)) = id from funext fun j => by simp, List.map_id, List.map_id] at this
  exact this
theorem intOfN (js : List Nat) : (dsN js).map intOf = ofN js := by
  unfold dsN ofN
  rw [List.map_map]
  rfl
theorem ordOk_list (m : Nat) (ds : List PyData) : ordOk m (.list ds) = (ds.all isWhole && ordL m (ds.map intOf)) := rfl
theorem ordOkN {m : Nat} {l : List Nat} (h : ordOk m (.list (dsN l)) = true) : l.Perm (List.range m) := by
  rw [ordOk_list, Bool.and_eq_true_iff, intOfN] at h
  obtain ⟨js, e, p⟩ := ord_nat h.2
  rw [ofN_inj e]
  exact p
theorem notOrdN {m : Nat} {l : List Nat} (h : ¬ l.Perm (List.range m)) : ordOk m (.list (dsN l)) = false := by
  cases e : ordOk m (.list (dsN l)) with
  | false => rfl
  | true => exact absurd (ordOkN e) h
theorem notOrdH {m : Nat} {d : PyData} {ds : List PyData} (h : isWhole d = false) : ordOk m (.list (d :: ds)) = false := by
  rw [ordOk_list, List.all_cons, h]
  rfl
theorem shapedC {d : PyData} {ds : List PyData} (h1 : PyData.canLay0 d = true) (h2 : PyData.depth d ≤ 3) (h3 : PyData.canLayAll0 ds = true) (h4 : PyData.depthAll ds ≤ 3) : SeqAt.shaped (.list (d :: ds)) = true := by
  unfold SeqAt.shaped
  rw [PyData.canLay0, PyData.canLayAll0, h1, h3, PyData.depth, PyData.depthAll]
  show decide (max _ _ + 1 ≤ 64) = true
  exact decide_eq_true (by omega)
theorem shapedNl (js : List Nat) : SeqAt.shaped (.list (dsN js)) = true := by rw [dsN_ofN]; exact shaped_ints _
section
variable {m : Nat} {js : List Nat} (p : js.Perm (List.range m))
include p
theorem bad3 : Bad m js (.tuple (dsN js)) := ⟨.inl rfl, .inr (by
  unfold SeqAt.shaped
  rw [PyData.canLay0, layN, PyData.depth, depN]
  rfl)⟩
theorem bad4 : Bad m js (.list (dsN (js ++ [js.length]))) := ⟨.inl (notOrdN fun h => by
  have h1 := h.length_eq
  have h2 := p.length_eq
  rw [List.length_append, List.length_singleton] at h1
  omega), .inr (shapedNl _)⟩
theorem bad5 (hm : 1 ≤ m) : Bad m js (.list (dsN (js.drop 1))) := ⟨.inl (notOrdN fun h => by
  have h1 := h.length_eq
  have h2 := p.length_eq
  rw [List.length_drop] at h1
  rw [List.length_range] at h1 h2
  omega), .inr (shapedNl _)⟩
theorem bad6 : Bad m js (.list (dsN (js.length :: js.drop 1))) := ⟨.inl (notOrdN fun h => by
  have := pr_lt h List.mem_cons_self
  have h2 := p.length_eq
  rw [List.length_range] at h2
  omega), .inr (shapedNl _)⟩
theorem bad7 {x : Nat} (hx : js.getLast? = some x) : Bad m js (.list (dsN (x :: js.drop 1))) := by
  refine ⟨?_, .inr (shapedNl _)⟩
  cases js with
  | nil => cases hx
  | cons a l =>
    cases l with
    | nil =>
      have : x = a := (Option.some.inj hx).symm
      rw [this]
      exact .inr rfl
    | cons b l =>
      refine .inl (notOrdN fun h => ?_)
      have hn := pr_nd h
      have hx2 : x ∈ b :: l := by
        rw [List.getLast?_cons_cons] at hx
        exact List.mem_of_getLast? hx
      exact (List.nodup_cons.mp hn).1 hx2
theorem bad9 : Bad m js (.list (.int (-1) :: dsN (js.drop 1))) := by
  refine ⟨.inl ?_, .inr (shapedC rfl (by decide) (layN _) (by rw [depN]; decide))⟩
  cases e : ordOk m (.list (.int (-1) :: dsN (js.drop 1))) with
  | false => rfl
  | true =>
    rw [ordOk_list, Bool.and_eq_true_iff] at e
    have q := (ord_perm e.2).mem_iff (a := (-1 : Int))
    have q2 := q.mp List.mem_cons_self
    unfold rgL at q2
    obtain ⟨j, _, hj⟩ := List.mem_map.mp q2
    omega
theorem bad14 : Bad m js (.list (dsN js.dropLast ++ [.list [.int 0]])) := by
  refine ⟨.inl ?_, .inr ?_⟩
  · rw [ordOk_list, List.all_append]
    have : ([PyData.list [.int 0]].all isWhole) = false := rfl
    rw [this, Bool.and_false]
    rfl
  · have : ∀ l : List Nat, PyData.canLayAll0 (dsN l ++ [.list [.int 0]]) = true ∧ PyData.depthAll (dsN l ++ [.list [.int 0]]) ≤ 3 := by
      intro l
      induction l with
      | nil => exact ⟨rfl, by decide⟩
      | cons a l ih =>
        obtain ⟨h1, h2⟩ := ih
        constructor
        · show (PyData.canLay0 (.int a) && PyData.canLayAll0 (dsN l ++ [.list [.int 0]])) = true
          rw [h1]
          rfl
        · show max (PyData.depth (.int a)) (PyData.depthAll (dsN l ++ [.list [.int 0]])) ≤ 3
          have : PyData.depth (.int a) = 0 := by simp [PyData.depth]
          omega
    obtain ⟨h1, h2⟩ := this js.dropLast
    unfold SeqAt.shaped
    rw [PyData.canLay0, h1, PyData.depth]
    exact decide_eq_true (by omega)
end
theorem badH {m : Nat} {js : List Nat} {d : PyData} {ds : List PyData} (h : isWhole d = false) (h1 : PyData.canLay0 d = true) (h2 : PyData.depth d ≤ 3) (h3 : PyData.canLayAll0 ds = true) (h4 : PyData.depthAll ds ≤ 3) : Bad m js (.list (d :: ds)) := ⟨.inl (notOrdH h), .inr (shapedC h1 h2 h3 h4)⟩
theorem bools_lay : ∀ l : List PyData, PyData.canLayAll0 (l.filter isBool) = true ∧ PyData.depthAll (l.filter isBool) = 0
  | [] => ⟨rfl, rfl⟩
  | d :: l => by
    obtain ⟨h1, h2⟩ := bools_lay l
    cases hb : isBool d with
    | false =>
      rw [List.filter_cons_of_neg (by simp [hb])]
      exact ⟨h1, h2⟩
    | true =>
      rw [List.filter_cons_of_pos hb, PyData.canLayAll0, PyData.depthAll, h1, h2]
      cases d with
      | bool b => exact ⟨rfl, rfl⟩
      | _ => cases hb
theorem bools_shaped (l : List PyData) : SeqAt.shaped (.list (l.filter isBool)) = true := by
  obtain ⟨h1, h2⟩ := bools_lay l
  unfold SeqAt.shaped
  rw [PyData.canLay0, h1, PyData.depth, h2]
  rfl
theorem bools_N : ∀ js : List Nat, (dsN js).filter isBool = []
  | [] => rfl
  | _ :: js => bools_N js
def sp_no_order (K : PySem.W.Frag) : Sp := fun vs H Q _ => ∃ (o : Addr) (js : List Nat) (c : Int) (k : Nat), vs = [.ref o, .int c, .int k] ∧ H o = some (.lst (vsN js)) ∧ js.Perm (List.range js.length) ∧ 1 ≤ js.length ∧ js.length ≤ 20 ∧ k < 1000 ∧
  ∀ x d H', Same H H' → Dq H' x d → ordOk js.length d = false → Q x H'
theorem ok_law_no_order (T : Txt K mg) : Z.C0 P w K mg base 2 "_law_no_order" (sp_no_order K) := by
  refine T.d_law_no_order.c0 sc_law_no_order (fun vs H Q E h => ?_) (Z.bd0 fun _ _ _ _ _ _ us hl => match us, hl with | [_, _, _], _ => rfl) (fun f cdv A outer s H vs Q E hr h => ⟨_, (pss_cons (ps_set (i := 3) sc_law_no_order.nd rfl (Or.inl rfl) (pe_lst (pa_cons pe_non (pa_cons pe_int (pa_cons pe_bl (pa_cons (pe_callTy (k_tuple K) rfl T.b_tuple (by decide +kernel) (pa_cons (pv 0) pa_nil)) (pa_cons (pe_op (k_addP K) (pv 0) (pe_lst (pa_cons (pe_callB (k_len K) rfl T.b_len (by decide +kernel) (pa_cons (pv 0) pa_nil)) pa_nil))) (pa_cons (pe_slice (k_sl K) (pv 0) (po_some pe_int) po_none) (pa_cons (pe_op (k_addP K) (pe_lst (pa_cons (pe_callB (k_len K) rfl T.b_len (by decide +kernel) (pa_cons (pv 0) pa_nil)) pa_nil)) (pe_slice (k_sl K) (pv 0) (po_some pe_int) po_none)) pa_nil)))))))))
  (pss_cons (ps_expr (k_bm K PySem.F.plainAttrs_list PySem.F.slot_list_append PySem.F.type_list_append mt_append (pv 3) (pa_cons (pe_op (k_addP K) (pe_lst (pa_cons (pe_ix (k_ix K) (pv 0) (pe_un un_neg pe_int) (fun _ _ => rfl)) pa_nil)) (pe_slice (k_sl K) (pv 0) (po_some pe_int) po_none)) pa_nil)))
  (Evl.pss_cut (ps_if (pt_cmpR op_gtI (pe_callB (k_len K) rfl T.b_len (by decide +kernel) (pa_cons (pv 0) pa_nil)) pe_int (nomark _))
  (pss_one (ps_expr (k_bm K PySem.F.plainAttrs_list PySem.F.slot_list_append PySem.F.type_list_append mt_append (pv 3) (pa_cons (pe_op (k_addP K) (pe_lst (pa_cons pe_bl pa_nil)) (pe_lc (own := [("_law_place", 5)]) rfl sc_law_no_order.nd (k_iL K (pv 0)) (blkOk_by (N := ["_law_order_here", "_law_cell_here", "_law_k", "_law_some", "_law_thing", "_law_place", "_law_one"]) (sc := defScope s_law_no_order) (by decide +kernel)) (fun _ _ _ _ _ => (pg_name (i := 5) sc_law_no_order.nd rfl (Or.inl rfl))) (fun _ _ _ _ _ => (pts_one (pt_cmpR (k_neP K hr.units) (pv 5) pe_int (nomark _)))) (fun _ _ _ _ _ => (pv 5)))) pa_nil)))) (pss_one (ps_expr (k_bm K PySem.F.plainAttrs_list PySem.F.slot_list_append PySem.F.type_list_append mt_append (pv 3) (pa_cons (pe_lst (pa_cons pe_bl pa_nil)) pa_nil)))))
  (pss_cons (ps_set (i := 3) sc_law_no_order.nd rfl (Or.inl rfl) (pe_op (k_addP K) (pv 3) (pe_lst (pa_cons (pe_op (k_addP K) (pe_lst (pa_cons (pe_un un_neg pe_int) pa_nil)) (pe_slice (k_sl K) (pv 0) (po_some pe_int) po_none)) (pa_cons (pe_op (k_addP K) (pe_lst (pa_cons pe_non pa_nil)) (pe_slice (k_sl K) (pv 0) (po_some pe_int) po_none)) (pa_cons (pe_op (k_addP K) (pe_lst (pa_cons pe_str pa_nil)) (pe_slice (k_sl K) (pv 0) (po_some pe_int) po_none)) (pa_cons pe_dnewK (pa_cons pe_str (pa_cons (pe_op (k_addP K) (pe_slice (k_sl K) (pv 0) po_none (po_some (pe_un un_neg pe_int))) (pe_lst (pa_cons (pe_lst (pa_cons pe_int pa_nil)) pa_nil))) pa_nil)))))))))
  (pss_cons (ps_set (i := 4) sc_law_no_order.nd rfl (Or.inl rfl) (pe_ix (k_ix K) (pv 3) (pe_op op_modP (pe_ix (k_ix K) (pe_c0 (ok_law_draws T) hr (by decide) rfl (pa_cons (pv 1) (pa_cons (pv 2) (pa_cons (pe_lst (pa_cons pe_int pa_nil)) pa_nil)))) pe_int (fun _ _ => rfl)) (pe_callB (k_len K) rfl T.b_len (by decide +kernel) (pa_cons (pv 3) pa_nil))) (fun _ _ => rfl)))
  (pss_cons (ps_if (PW.pt (pw_and (pt_cmpR (k_eqX K hr.units) (pv 4) (pv 0) (nomark _)) (pw_and (pt_val (pe_callB (k_isi K) rfl T.b_isinstance (by decide +kernel) (pa_cons (pv 4) (pa_cons (pe_bltn (v := .ty "list") rfl T.b_list (by decide +kernel) rfl) pa_nil)))) (pw_and1 (pt_cmpR (k_eqP K hr.units) (pe_lc (own := [("_law_one", 6)]) rfl sc_law_no_order.nd (k_iL K (pv 4)) (blkOk_by (N := ["_law_order_here", "_law_cell_here", "_law_k", "_law_some", "_law_thing", "_law_place", "_law_one"]) (sc := defScope s_law_no_order) (by decide +kernel)) (fun _ _ _ _ _ => (pg_name (i := 6) sc_law_no_order.nd rfl (Or.inl rfl))) (fun _ _ _ _ _ => (pts_one (pt_val (pe_callB (k_isi K) rfl T.b_isinstance (by decide +kernel) (pa_cons (pv 6) (pa_cons (pe_bltn (v := .ty "bool") rfl T.b_bool (by decide +kernel) rfl) pa_nil)))))) (fun _ _ _ _ _ => (pv 6))) (pe_lst pa_nil) (nomark _))))))
  (pss_one (ps_ret pe_non)) pss_nil)
  (pss_one (ps_ret (pv 4))))))))), ?_⟩)
  · obtain ⟨o, js, c, k, rfl, _⟩ := h
    rfl
  · obtain ⟨o, js, c, k, rfl, ho, hp, hm1, hm2, hk, q⟩ := h
    rw [st_law_no_order]
    walk_at "st"
    have hlv := len_vsN js
    obtain ⟨lst, hlst⟩ : ∃ x, js.getLast? = some x := by
      cases e : js.getLast? with
      | none => rw [List.getLast?_eq_none_iff] at e; rw [e] at hm1; exact absurd hm1 (by decide)
      | some x => exact ⟨x, rfl⟩
    have hneg : atI (vsN js) (-1) = some (.int (lst : Nat)) := at_neg1 (by
      unfold vsN
      rw [List.getLast?_map, hlst]
      rfl)
    have hld : (vsN (js.drop 1)).length ≤ 20 := by
      rw [len_vsN, List.length_drop]
      omega
    have hll : (vsN js.dropLast).length ≤ 20 := by
      rw [len_vsN, List.length_dropLast]
      omega
    walk_at "rd"
    refine r_tupL (sqL ho) (fun p3 G1 n1 s1 f1 => ?_)
    walk_at "rd"
    intro p G2 n2 s2 f2
    walk_at "rd"
    intro p4 G3 n3 s3 f3
    walk_at "rd"
    intro p5 G4 n4 s4 f4
    rw [cut1] at f4
    walk_at "rd"
    intro p G5 n5 s5 f5
    walk_at "rd"
    intro p' G6 n6 s6 f6
    rw [cut1] at f6
    walk_at "rd"
    intro p6 G7 n7 s7 f7
    walk_at "rd"
    intro l G8 n8 s8 f8
    walk_at "rd"
    intro p G9 n9 s9 f9
    walk_at "rd"
    intro p' G10 n10 s10 f10
    rw [cut1] at f10
    walk_at "rd"
    intro p7 G11 n11 s11 f11
    walk_at "rd"
    intro G12 b12 f12
    -- all so far
    have k3 : G12 p3 = some (.tup (vsN js)) := by walk_at "lk"
    have k4 : G12 p4 = some (.lst (vsN js ++ [.int ((vsN js).length : Nat)])) := by walk_at "lk"
    have k5 : G12 p5 = some (.lst (vsN (js.drop 1))) := by walk_at "lk"
    have k6 : G12 p6 = some (.lst ([.int ((vsN js).length : Nat)] ++ vsN (js.drop 1))) := by walk_at "lk"
    have k7 : G12 p7 = some (.lst ([.int (lst : Nat)] ++ vsN (js.drop 1))) := by walk_at "lk"
    have eo : Same H G12 := by walk_at "sm"
    have m3 : p3 ≠ l := by walk_at "ne"
    have m4 : p4 ≠ l := by walk_at "ne"
    have m5 : p5 ≠ l := by walk_at "ne"
    have m6 : p6 ≠ l := by walk_at "ne"
    have m7 : p7 ≠ l := by walk_at "ne"
    have hlH : H l = none := by walk_at "fn"
    rw [hlv, show vsN js ++ [V.int (js.length : Nat)] = vsN (js ++ [js.length]) by unfold vsN; rw [List.map_append]; rfl] at k4
    rw [hlv] at k6
    have pk : DqAll (L2.del G12 l) [.non, .int 5, .bl true, .ref p3, .ref p4, .ref p5, .ref p6, .ref p7] [.none, .int 5, .bool true, .tuple (dsN js), .list (dsN (js ++ [js.length])), .list (dsN (js.drop 1)), .list (dsN (js.length :: js.drop 1)), .list (dsN (lst :: js.drop 1))] :=
      .cons .non (.cons (.int _) (.cons (.bl _) (.cons (.tup (delG k3 m3) (dqN _) (by omega)) (.cons (.lst (delG k4 m4) (dqN _) (by rw [len_vsN, List.length_append, List.length_singleton]; omega)) (.cons (.lst (delG k5 m5) (dqN _) (by omega))
        (.cons (.lst (delG k6 m6) (dqN (js.length :: js.drop 1)) (by rw [List.length_append, List.length_singleton]; omega)) (.cons (.lst (delG k7 m7) (dqN (lst :: js.drop 1)) (by rw [List.length_append, List.length_singleton]; omega)) .nil)))))))
    have bd0 : ∀ d ∈ [.none, .int 5, .bool true, .tuple (dsN js), .list (dsN (js ++ [js.length])), .list (dsN (js.drop 1)), .list (dsN (js.length :: js.drop 1)), .list (dsN (lst :: js.drop 1))], Bad js.length js d := by
      intro d hd
      simp only [List.mem_cons, List.not_mem_nil, or_false] at hd
      rcases hd with rfl | rfl | rfl | rfl | rfl | rfl | rfl | rfl
      · exact ⟨.inl rfl, .inr rfl⟩
      · exact ⟨.inl rfl, .inr rfl⟩
      · exact ⟨.inl rfl, .inr rfl⟩
      · exact bad3 hp
      · exact bad4 hp
      · exact bad5 hp hm1
      · exact bad6 hp
      · exact bad7 hp hlst
    have f12' : G12 l = some (.lst [.non, .int 5, .bl true, .ref p3, .ref p4, .ref p5, .ref p6, .ref p7]) := f12
    revert f12' pk bd0
    generalize hx0 : [V.non, .int 5, .bl true, .ref p3, .ref p4, .ref p5, .ref p6, .ref p7] = xs0
    generalize [PyData.none, .int 5, .bool true, .tuple (dsN js), .list (dsN (js ++ [js.length])), .list (dsN (js.drop 1)), .list (dsN (js.length :: js.drop 1)), .list (dsN (lst :: js.drop 1))] = ds0
    intro pk bd0 f12'
    have hx8 : xs0.length = 8 := by rw [← hx0]; rfl
    clear hx0 k3 k4 k5 k6 k7 m3 m4 m5 m6 m7 f12 f11 f10 f9 f8 f7 f6 f5 f4 f3 f2 f1 n1 n2 n3 n4 n5 n6 n7 n8 n9 n10 n11 s1 s2 s3 s4 s5 s6 s7 s8 s9 s10 s11 b12
    refine r_cut (fun σ' H' => ∃ xs ds, σ' = [some (.ref o), some (.int c), some (.int k), some (.ref l), none, none, none] ∧ Same H H' ∧ H' l = some (.lst xs) ∧ 1 ≤ xs.length ∧ xs.length ≤ 9 ∧ DqAll (L2.del H' l) xs ds ∧ ∀ d ∈ ds, Bad js.length js d) ?_ ?_
    · walk_at "rd"
      refine r_ite (fun h1 => ?_) (fun h1 => ?_)
      · walk_at "rd"
        intro q1 H1 n1 s1 f1
        walk_at "rd"
        refine lcW (walk_list (xs := vsN js)) (fun i acc _ => acc = vsN ((js.take i).filter fun j => !decide (j = 1))) rfl (fun _ _ => by walk_at "lk") (fun _ _ => rfl) ?_ ?_
        · rintro i x acc Dl H2 H3 hi hD e1 e2 hl2 rfl y
          obtain ⟨rfl, hx⟩ := y
          have hi2 : i < js.length := by omega
          obtain rfl : V.int (js[i] : Nat) = x := by
            have hx : (vsN js)[i]? = some x := hx
            unfold vsN at hx
            rw [List.getElem?_map, List.getElem?_eq_getElem hi2] at hx
            exact Option.some.inj hx
          have et : js.take (i + 1) = js.take i ++ [js[i]] := (List.take_append_getElem hi2).symm
          have va : ∀ a b : List Nat, vsN (a ++ b) = vsN a ++ vsN b := fun a b => by unfold vsN; rw [List.map_append]
          walk_at "rd"
          refine r_nite (fun h => ?_) (fun h => ?_)
          · walk_at "rd"
            refine lc_put (by omega) hD e1 e2 hl2 fun H5 _ _ => ?_
            rw [et, List.filter_append, va, List.filter_cons_of_pos (by simp; omega)]
            rfl
          · refine lc_skip e1 e2 hl2 ?_
            rw [et, List.filter_append, va, List.filter_cons_of_neg (by simp; omega), List.filter_nil]
            exact (List.append_nil _).symm
        · rintro acc Dl H2 hD e1 e2 rfl
          rw [hlv, List.take_of_length_le (Nat.le_refl _)] at e2
          revert e2
          have hfl : (js.filter fun j => !decide (j = 1)).length ≤ 20 := Nat.le_trans (List.length_filter_le _ _) hm2
          revert hfl
          generalize (js.filter fun j => !decide (j = 1)) = fl
          intro hfl e2
          have hfv : (vsN fl).length ≤ 20 := by rw [len_vsN]; exact hfl
          walk_at "rd"
          intro q2 H3 n3 s3 f3
          walk_at "rd"
          intro H4 b4 f4
          have hq2 : q2 ≠ l := by walk_at "ne"
          have hs : Same G12 H3 := by walk_at "sm"
          refine ⟨xs0 ++ [.ref q2], ds0 ++ [.list (.bool true :: dsN fl)], rfl, by walk_at "sm", f4, by simp, by simp; omega, ?_, ?_⟩
          · refine DqAll.app (pk.up ((delS hs).trans (delB b4))) (.cons (.lst (delB b4 _ _ (delG f3 hq2)) (.cons (.bl true) (dqN fl)) (by simp; omega)) .nil)
          · intro d hd
            rcases List.mem_append.mp hd with hd | hd
            · exact bd0 d hd
            · rw [List.mem_singleton.mp hd]
              exact badH rfl rfl (by simp [PyData.depth]) (layN _) (by rw [depN]; decide)
      · walk_at "rd"
        intro q1 H1 n1 s1 f1
        walk_at "rd"
        intro H4 b4 f4
        have hq2 : q1 ≠ l := by walk_at "ne"
        refine ⟨xs0 ++ [.ref q1], ds0 ++ [.list [.bool false]], rfl, by walk_at "sm", f4, by simp, by simp; omega, ?_, ?_⟩
        · refine DqAll.app (pk.up ((delS s1).trans (delB b4))) (.cons (.lst (delB b4 _ _ (delG f1 hq2)) (.cons (.bl false) .nil) (by simp)) .nil)
        · intro d hd
          rcases List.mem_append.mp hd with hd | hd
          · exact bd0 d hd
          · rw [List.mem_singleton.mp hd]
            exact badH rfl rfl (by simp [PyData.depth]) rfl (by simp [PyData.depthAll])
    clear eo pk bd0 f12' hx8
    rintro σ' G ⟨xs, ds, rfl, eo, fl, hx1, hx9, dq, bd⟩
    replace dq := dq.up del_sub
    walk_at "rd"
    intro a1 G1 n1 s1 f1
    walk_at "rd"
    intro a2 G2 n2 s2 f2
    rw [cut1] at f2
    walk_at "rd"
    intro a3 G3 n3 s3 f3
    walk_at "rd"
    intro b1 G4 n4 s4 f4
    walk_at "rd"
    intro b2 G5 n5 s5 f5
    rw [cut1] at f5
    walk_at "rd"
    intro b3 G6 n6 s6 f6
    walk_at "rd"
    intro c1 G7 n7 s7 f7
    walk_at "rd"
    intro c2 G8 n8 s8 f8
    rw [cut1] at f8
    walk_at "rd"
    intro c3 G9 n9 s9 f9
    walk_at "rd"
    intro d1 G10 n10 s10 f10
    walk_at "rd"
    intro e1 G11 n11 s11 f11
    rw [cutm] at f11
    walk_at "rd"
    intro e2 G12 n12 s12 f12
    walk_at "rd"
    intro e3 G13 n13 s13 f13
    walk_at "rd"
    intro e4 G14 n14 s14 f14
    walk_at "rd"
    intro g1 G15 n15 s15 f15
    walk_at "rd"
    intro g2 G16 n16 s16 f16
    walk_at "rd"
    intro g3 G17 n17 s17 f17
    walk_at "rd"
    refine ⟨c, k, g3, [1009], rfl, hk, by decide, f17, by decide, fun rs o1 G18 hd ho1 s18 f18 => ?_⟩
    obtain ⟨hr1, hr2⟩ := hd
    have a0 : atI (vsN rs) 0 = some (.int (rs[0]'(by rw [hr1]; decide) : Nat)) := at_vs rfl (by rw [hr1]; decide)
    have k3 : G18 a3 = some (.lst ([V.int (-1)] ++ vsN (js.drop 1))) := by walk_at "lk"
    have k6 : G18 b3 = some (.lst ([V.non] ++ vsN (js.drop 1))) := by walk_at "lk"
    have k9 : G18 c3 = some (.lst ([V.str (Str.ofString "0")] ++ vsN (js.drop 1))) := by walk_at "lk"
    have k10 : G18 d1 = some (.dK []) := by walk_at "lk"
    have k12 : G18 e2 = some (.lst [V.int 0]) := by walk_at "lk"
    have k14 : G18 e4 = some (.lst (vsN js.dropLast ++ [V.ref e2])) := by walk_at "lk"
    have k16 : G18 g2 = some (.lst (xs ++ [V.ref a3, V.ref b3, V.ref c3, V.ref d1, V.str (Str.ofString "0"), V.ref e4])) := by walk_at "lk"
    have ss : Same G G18 := by walk_at "sm"
    have so : Same H G18 := eo.trans ss
    have ho2 : G18 o = some (.lst (vsN js)) := so _ _ ho
    have pk : DqAll G18 (xs ++ [V.ref a3, V.ref b3, V.ref c3, V.ref d1, V.str (Str.ofString "0"), V.ref e4]) (ds ++ [.list (.int (-1) :: dsN (js.drop 1)), .list (.none :: dsN (js.drop 1)), .list (.str (Str.ofString "0") :: dsN (js.drop 1)), .dict [], .str (Str.ofString "0"), .list (dsN js.dropLast ++ [.list [.int 0]])]) :=
      DqAll.app (dq.up ss) (.cons (.lst k3 (.cons (.int _) (dqN _)) (by rw [List.length_append, List.length_singleton]; omega)) (.cons (.lst k6 (.cons .non (dqN _)) (by rw [List.length_append, List.length_singleton]; omega)) (.cons (.lst k9 (.cons (.str _ (by decide +kernel)) (dqN _)) (by rw [List.length_append, List.length_singleton]; omega)) (.cons (.dic k10)
        (.cons (.str _ (by decide +kernel)) (.cons (.lst k14 (DqAll.app (dqN _) (.cons (.lst k12 (.cons (.int _) .nil) (by decide)) .nil)) (by rw [List.length_append, List.length_singleton]; omega)) .nil))))))
    have bd2 : ∀ d ∈ (ds ++ [.list (.int (-1) :: dsN (js.drop 1)), .list (.none :: dsN (js.drop 1)), .list (.str (Str.ofString "0") :: dsN (js.drop 1)), .dict [], .str (Str.ofString "0"), .list (dsN js.dropLast ++ [.list [.int 0]])]), Bad js.length js d := by
      intro d hd
      rcases List.mem_append.mp hd with hd | hd
      · exact bd d hd
      simp only [List.mem_cons, List.not_mem_nil, or_false] at hd
      rcases hd with rfl | rfl | rfl | rfl | rfl | rfl
      · exact bad9 hp
      · exact badH rfl rfl (by simp [PyData.depth]) (layN _) (by rw [depN]; decide)
      · exact badH rfl (by decide +kernel) (by simp [PyData.depth]) (layN _) (by rw [depN]; decide)
      · exact ⟨.inl rfl, .inl rfl⟩
      · exact ⟨.inl rfl, .inr (by decide +kernel)⟩
      · exact bad14 hp
    revert k16 pk
    generalize hxx : (xs ++ [V.ref a3, V.ref b3, V.ref c3, V.ref d1, V.str (Str.ofString "0"), V.ref e4]) = ys
    have hy0 : 0 < ys.length := by rw [← hxx, List.length_append]; omega
    intro k16 pk
    clear k3 k6 k9 k10 k12 k14 f1 f2 f3 f4 f5 f6 f7 f8 f9 f10 f11 f12 f13 f14 f15 f16 f17 n1 n2 n3 n4 n5 n6 n7 n8 n9 n10 n11 n12 n13 n14 n15 n16 n17 s1 s2 s3 s4 s5 s6 s7 s8 s9 s10 s11 s12 s13 s14 s15 s16 s17 s18 fl dq bd eo ss
    walk_at "rd"
    obtain ⟨v, d, hv, hq, hd⟩ := pk.at (z := ((rs[0]'(by rw [hr1]; decide) : Nat) : Int) % ((ys.length : Nat) : Int)) (Int.emod_nonneg _ (by omega)) (Int.emod_lt_of_pos _ (by omega))
    walk_at "rd"
    obtain ⟨hno, hss⟩ := bd2 d hd
    rcases hss with rfl | hs
    · cases hq with
      | dic ha =>
        refine r_eqXl ha ho2 ?_
        walk_at "rd"
        exact q _ _ G18 so (.dic ha) rfl
    · refine r_eqXd (d := d) (e := .list (dsN js)) (Dq.dp hq (shaped_lay hs)) (.lst (sqL ho2) (DqAll.dp (dqN js) (layN js))) ?_ hs (shapedNl js)
      cases he : PyData.eqv d (.list (dsN js)) with
      | false =>
        have hf : ordOk js.length d = false := hno.resolve_right (fun e => by
          rw [e, SeqAt.eqv_refl _ (shaped_lay (shapedNl js))] at he
          cases he)
        walk_at "rd"
        exact q v d _ so hq hf
      | true =>
        walk_at "rd"
        cases hl : isList d with
        | false =>
          walk_at "rd"
          exact q v d _ so hq (hno.resolve_right (fun e => by
            rw [e] at hl
            cases hl))
        | true =>
          obtain ⟨ds1, rfl⟩ : ∃ ds1, d = .list ds1 := by
            cases d with
            | list ds1 => exact ⟨ds1, rfl⟩
            | _ => cases hl
          cases hq with
          | @lst a1 ys1 _ ha hys hn =>
            have hyl := hys.length
            walk_at "rd"
            refine lcW (walk_list (xs := ys1)) (fun i acc _ => DqAll G18 acc ((ds1.take i).filter isBool)) rfl (fun _ _ => by walk_at "lk") (fun _ _ => .nil) ?_ ?_
            · rintro i x acc Dl H2 H3 hi hD e1 e2 hl2 hacc y
              obtain ⟨rfl, hx⟩ := y
              have hi2 : i < ds1.length := by omega
              obtain rfl : ys1[i] = x := Option.some.inj ((List.getElem?_eq_getElem hi).symm.trans hx)
              have gi := hys.get i hi hi2
              have gi2 := gi.up e1
              have et : ds1.take (i + 1) = ds1.take i ++ [ds1[i]] := (List.take_append_getElem hi2).symm
              walk_at "rd"
              cases hb : isBool ds1[i] with
              | true =>
                walk_at "rd"
                refine lc_put (by omega) hD e1 e2 hl2 fun H5 _ _ => ?_
                rw [et, List.filter_append, List.filter_cons_of_pos hb]
                exact DqAll.app hacc (.cons gi .nil)
              | false =>
                walk_at "rd"
                refine lc_skip e1 e2 hl2 ?_
                rw [et, List.filter_append, List.filter_cons_of_neg (by simp [hb]), List.filter_nil, List.append_nil]
                exact hacc
            · rintro acc Dl H2 hD e1 e2 hacc
              rw [hyl, List.take_length] at hacc
              walk_at "rd"
              intro l0 H3 n3 s3 f3
              walk_at "rd"
              refine r_eqD (d := .list (ds1.filter isBool)) (e := .list []) (.lst (sqL (s3 _ _ e2)) (DqAll.dp (hacc.up (e1.trans s3)) (bools_lay _).1)) (.lst (sqL f3) .nil) ?_ (bools_shaped _) rfl
              have so3 : Same H H3 := so.trans (e1.trans s3)
              cases hf : ds1.filter isBool with
              | nil =>
                rw [show PyData.eqv (.list []) (.list []) = true from rfl]
                walk_at "rd"
                exact q .non .none _ so3 .non rfl
              | cons b bs =>
                rw [show PyData.eqv (.list (b :: bs)) (.list []) = false by simp [PyData.eqv, PyData.eqvAll]]
                walk_at "rd"
                refine q _ (.list ds1) _ so3 (.lst ((e1.trans s3) _ _ ha) (hys.up (e1.trans s3)) hn) (hno.resolve_right (fun e => ?_))
                have e := PyData.list.inj e
                rw [e, bools_N] at hf
                cases hf
end
end My

namespace My
open PySem PySem.Spec PyProof.Rows L2 Z M SX TL
section
variable {P : Program} {w : World} {K : PySem.W.Frag} {mg : Str → Option Value} {base : Heap}
theorem dsN_whole : ∀ js : List Nat, (dsN js).all isWhole = true
  | [] => rfl
  | _ :: js => dsN_whole js
theorem dq_ints_eq {H : Hp} : ∀ {js : List Nat} {ds : List PyData}, DqAll H (vsN js) ds → ds = dsN js
  | [], _, h => by cases h; rfl
  | j :: js, _, h => by
    cases h with
    | cons h1 h2 =>
      cases h1 with
      | int _ => rw [dq_ints_eq h2]; rfl
theorem ord_of {H : Hp} {b : Addr} {e : PyData} {js : List Nat} {m : Nat} (h : Dq H (.ref b) e) (hb : H b = some (.lst (vsN js))) (p : js.Perm (List.range m)) : ordOk m e = true := by
  cases h with
  | lst h1 h2 _ =>
    rw [hb] at h1
    cases h1
    rw [dq_ints_eq h2, ordOk_list, dsN_whole, intOfN, nat_ord p]
    rfl
  | tup h1 _ _ =>
    rw [hb] at h1
    cases h1
  | dic h1 =>
    rw [hb] at h1
    cases h1
def sp_refused : Sp := fun vs H Q _ => ∃ (a : Addr) (xs : List V) (y : V) (e : PyData) (way : Int), vs = [.ref a, y, .int way] ∧ H a = some (.lst xs) ∧ xs.length ≤ 1000000 ∧ Dq H y e ∧ ordOk xs.length e = false ∧
  (way = 0 → ∃ ds, DqAll H xs ds ∧ wantsErr (.list ds) = none) ∧ ∀ H', Same H H' → Q (.bl true) H'
theorem ok_law_refused (T : Txt K mg) : Z.C0 P w K mg base 5 "_law_refused" (sp_refused) := by
  refine T.d_law_refused.c0 sc_law_refused (fun vs H Q E h => ?_) (Z.bd0 fun _ _ _ _ _ _ us hl => match us, hl with | [_, _, _], _ => rfl) (fun f cdv A outer s H vs Q E hr h => ⟨_, (pss_cons (ps_set (i := 3) sc_law_refused.nd rfl (Or.inl rfl) pe_non)
  (pss_cons (ps_keep (i := 4) rfl rfl rfl sc_law_refused.nd rfl rfl ⟨rfl, by decide, Or.inl T.k_DearError⟩ takes0 (fun W pn xe tk hp => (pss_one (ps_if (pt_cmpR (k_eqP K hr.units) (pv 2) pe_int (nomark _))
  (pss_one (ps_expr (pe_ce (ok_put_wants T) hr (by decide) rfl tk (pa_cons (pv 0) (pa_cons (pv 1) pa_nil))))) (pss_one (ps_expr (pe_ce (ok_put_book T) hr (by decide) rfl tk (pa_cons (pv 0) (pa_cons (pv 1) pa_nil))))))))
  (fun a oe cls d pn hz hf => (pss_one (ps_set (i := 3) sc_law_refused.nd rfl (Or.inl rfl) (pv 4)))))
  (pss_one (ps_ret (pe_c0 (ok_law_is_no_turn T) hr (by decide) rfl (pa_cons (pv 3) pa_nil)))))), ?_⟩)
  · obtain ⟨a, xs, y, e, way, rfl, _⟩ := h
    rfl
  · obtain ⟨a, xs, y, e, way, rfl, ha, hn, hy, ho, hw, q⟩ := h
    rw [st_law_refused]
    walk_at "st"
    have nop : ∀ b js, y = .ref b → H b = some (.lst (vsN js)) → js.Perm (List.range xs.length) → False := fun b js e1 e2 e3 => by
      subst e1
      rw [ord_of hy e2 e3] at ho
      cases ho
    walk_at "rd"
    refine r_ite (fun h1 => ?_) (fun h1 => ?_)
    · obtain ⟨ds, hd, he⟩ := hw h1
      walk_at "rd"
      refine ⟨.ref a, y, .list ds, e, rfl, .lst ha hd hn, hy, fun v hv => (by rw [he] at hv; cases hv), fun _ _ H1 e1 => ?_, fun _ a' xs' b js e1 e2 e3 e4 e5 => ?_⟩
      · refine r_caught ((T.ex.m "NoTurn" (by simp) "DearError" (by simp)).trans rfl) (fun a ha => ?_)
        dsimp only [List.set]
        walk_at "rd"
        dsimp only [List.set]
        walk_at "rd"
        exact ⟨a, rfl, upd_same, fun H' e' => q H' (e1.trans ((Same.new ha).trans e'))⟩
      · cases e1
        rw [ha] at e2
        cases e2
        exact (nop b js e3 e4 e5).elim
    · walk_at "rd"
      refine ⟨a, xs, y, e, rfl, ha, hn, hy, fun _ H1 e1 => ?_, fun b js e3 e4 e5 => (nop b js e3 e4 e5).elim⟩
      refine r_caught ((T.ex.m "NoTurn" (by simp) "DearError" (by simp)).trans rfl) (fun a ha => ?_)
      dsimp only [List.set]
      walk_at "rd"
      dsimp only [List.set]
      walk_at "rd"
      exact ⟨a, rfl, upd_same, fun H' e' => q H' (e1.trans ((Same.new ha).trans e'))⟩
def sp_number : Sp := fun vs H Q _ => ∃ (x y : V) (d e : PyData) (v : V), vs = [x, y] ∧ Dq H x d ∧ Dq H y e ∧ wantsErr d = some v ∧ ∀ H', Same H H' → Q v H'
theorem ok_law_number (T : Txt K mg) : Z.C0 P w K mg base 5 "_law_number" (sp_number) := by
  refine T.d_law_number.c0 sc_law_number (fun vs H Q E h => ?_) (Z.bd0 fun _ _ _ _ _ _ us hl => match us, hl with | [_, _], _ => rfl) (fun f cdv A outer s H vs Q E hr h => ⟨_, (pss_cons (ps_set (i := 2) sc_law_number.nd rfl (Or.inl rfl) pe_str)
  (pss_cons (ps_keep (i := 3) rfl rfl rfl sc_law_number.nd rfl rfl ⟨rfl, by decide, Or.inl T.k_NoWants⟩ takes0 (fun W pn xe tk hp => (pss_one (ps_expr (pe_ce (ok_put_wants T) hr (by decide) rfl tk (pa_cons (pv 0) (pa_cons (pv 1) pa_nil))))))
  (fun a oe cls d pn hz hf => (pss_one (ps_set (i := 2) sc_law_number.nd rfl (Or.inl rfl) (pe_xf (T.ex.i ("NoWants", "number") (by simp)).xf (T.ex.i ("NoWants", "number") (by simp)).no hz hf (pv 3))))))
  (pss_one (ps_ret (pv 2))))), ?_⟩)
  · obtain ⟨x, y, d, e, v, rfl, _⟩ := h
    rfl
  · obtain ⟨x, y, d, e, v, rfl, hx, hy, he, q⟩ := h
    rw [st_law_number]
    walk_at "st"
    walk_at "rd"
    refine ⟨x, y, d, e, rfl, hx, hy, fun v' hv dd H1 hdd e1 f1 => ?_, fun h => (by rw [he] at h; cases h), fun h => (by rw [he] at h; cases h)⟩
    rw [he] at hv
    cases hv
    refine r_caught ((T.ex.m "NoWants" (by simp) "NoWants" (by simp)).trans rfl) (fun a ha => ?_)
    dsimp only [List.set]
    walk_at "rd"
    refine ⟨rfl, rfl, dd, _, v, rfl, f1, by simp [List.lookup], ?_⟩
    walk_at "rd"
    dsimp only [List.set]
    walk_at "rd"
    exact q _ (e1.trans (Same.new ha))
/-! wants that are none -/
theorem badFirst {d : PyData} {ds : List PyData} (h : wantName d = none) (hl : ds.length ≤ 19) : wantsErr (.list (d :: ds)) = some (.int 0) := by
  have e : wantsErr (.list (d :: ds)) = (wantsScan [] 0 (d :: ds)).map fun i => .int (i : Nat) := if_pos (by rw [List.length_cons]; omega)
  rw [e, scan_cons_none h]
  rfl
theorem len_wsD (ws : List (Str × Nat)) : (wsD ws).length = ws.length := by
  unfold wsD
  rw [List.length_map]
theorem badTwice {ws : List (Str × Nat)} {w0 : Str × Nat} (h : WsOk ws) (h0 : ws.head? = some w0) : wantsErr (.list (wsD (ws.take 19) ++ [wantD w0])) = some (.int ((min 19 ws.length : Nat) : Int)) := by
  have hl : (wsD (ws.take 19) ++ [wantD w0]).length = min 19 ws.length + 1 := by
    rw [List.length_append, len_wsD, List.length_take]
    rfl
  have h1 := h.l1
  have h2 := h.l2
  have e : wantsErr (.list (wsD (ws.take 19) ++ [wantD w0])) = (wantsScan [] 0 (wsD (ws.take 19) ++ [wantD w0])).map fun i => .int (i : Nat) := if_pos (by rw [hl]; omega)
  have hw0 : w0 ∈ ws.take 19 := by
    cases ws with
    | nil => cases h0
    | cons a l =>
      cases h0
      exact List.mem_cons_self
  have hm : w0 ∈ ws := List.mem_of_mem_take hw0
  rw [e, scan_app (ws.take 19) [] 0 _ (h.nd.sublist (List.Sublist.map _ (List.take_sublist _ _))) (fun w hw => h.nm w (List.mem_of_mem_take hw)) (fun w hw => h.ct w (List.mem_of_mem_take hw)) (fun _ _ => List.not_mem_nil),
    scan_cons_old (wantName_ok (h.nm w0 hm) (h.ct w0 hm)) (by rw [List.nil_append]; exact List.mem_map.mpr ⟨w0, hw0, rfl⟩), List.length_take, Nat.zero_add]
  rfl
theorem repl1 {α : Type} : ∀ (n : Nat) (v : α), (List.replicate n [v]).flatten = List.replicate n v
  | 0, _ => rfl
  | n + 1, v => by rw [List.replicate_succ, List.flatten_cons, repl1 n v]; rfl
theorem replQ {H : Hp} {v : V} {d : PyData} : ∀ n : Nat, Dq H v d → DqAll H (List.replicate n v) (List.replicate n d)
  | 0, _ => .nil
  | n + 1, h => .cons h (replQ n h)
theorem takeQ {H : Hp} : ∀ {xs : List V} {ds : List PyData}, DqAll H xs ds → ∀ n : Nat, DqAll H (xs.take n) (ds.take n)
  | _, _, .nil, n => by rw [List.take_nil, List.take_nil]; exact .nil
  | _, _, .cons _ _, 0 => .nil
  | _, _, .cons h r, n + 1 => .cons h (takeQ r n)
theorem wn2 {d c : PyData} (h : (isName d && cntOk c) = false) : wantName (.tuple [d, c]) = none := by
  show (if (isName d && cntOk c) = true then some (strOf d) else none) = none
  rw [h]
  rfl
def sp_no_wants (K : PySem.W.Frag) : Sp := fun vs H Q _ => ∃ (a : Addr) (xs : List V) (ws : List (Str × Nat)), vs = [.ref a] ∧ H a = some (.lst xs) ∧ DqAll H xs (wsD ws) ∧ WsOk ws ∧
  ∀ l ps H', Same H H' → H l = none → H' l = some (.lst ps) → ps.length = 9 → (∀ p ∈ ps, ∃ T x v d, p = .ref T ∧ H' T = some (.tup [x, v]) ∧ Dq H' x d ∧ wantsErr d = some v) → Q (.ref l) H'
theorem ok_law_no_wants (T : Txt K mg) : Z.C0 P w K mg base 1 "_law_no_wants" (sp_no_wants K) := by
  refine T.d_law_no_wants.c0 sc_law_no_wants (fun vs H Q E h => ?_) (Z.bd0 fun _ _ _ _ _ _ us hl => match us, hl with | [_], _ => rfl) (fun f cdv A outer s H vs Q E hr h => ⟨_, (pss_cons (ps_asg (pe_ix (k_ix K) (pv 0) pe_int (fun _ _ => rfl)) (k_tup K rfl (pgs_cons (pg_name (i := 1) sc_law_no_wants.nd rfl (Or.inl rfl)) (pgs_cons (pg_name (i := 2) sc_law_no_wants.nd rfl (Or.inl rfl)) pgs_nil))))
  (pss_cons (ps_set (i := 3) sc_law_no_wants.nd rfl (Or.inl rfl) (pe_lst (pa_cons (pe_tup (pa_cons pe_non (pa_cons pe_non pa_nil))) (pa_cons (pe_tup (pa_cons (pe_lst pa_nil) (pa_cons pe_non pa_nil))) (pa_cons (pe_tup (pa_cons (pe_callTy (k_tuple K) rfl T.b_tuple (by decide +kernel) (pa_cons (pv 0) pa_nil)) (pa_cons pe_non pa_nil))) (pa_cons (pe_tup (pa_cons (pe_op (k_addP K) (pv 0) (pe_op op_mulP (pe_lst (pa_cons (pe_tup (pa_cons (pv 1) (pa_cons pe_int pa_nil))) pa_nil)) (pe_op op_subI pe_int (pe_callB (k_len K) rfl T.b_len (by decide +kernel) (pa_cons (pv 0) pa_nil))))) (pa_cons pe_non pa_nil))) pa_nil))))))
  (pss_cons (ps_set (i := 3) sc_law_no_wants.nd rfl (Or.inl rfl) (pe_op (k_addP K) (pv 3) (pe_lst (pa_cons (pe_tup (pa_cons (pe_op (k_addP K) (pe_lst (pa_cons (pe_tup (pa_cons (pv 1) (pa_cons pe_bl pa_nil))) pa_nil)) (pe_slice (k_sl K) (pv 0) (po_some pe_int) po_none)) (pa_cons pe_int pa_nil))) (pa_cons (pe_tup (pa_cons (pe_op (k_addP K) (pe_lst (pa_cons (pe_tup (pa_cons (pv 1) (pa_cons (pe_un un_neg pe_int) pa_nil))) pa_nil)) (pe_slice (k_sl K) (pv 0) (po_some pe_int) po_none)) (pa_cons pe_int pa_nil))) (pa_cons (pe_tup (pa_cons (pe_op (k_addP K) (pe_lst (pa_cons (pe_lst (pa_cons (pv 1) (pa_cons (pv 2) pa_nil))) pa_nil)) (pe_slice (k_sl K) (pv 0) (po_some pe_int) po_none)) (pa_cons pe_int pa_nil))) pa_nil))))))
  (pss_one (ps_ret (pe_op (k_addP K) (pv 3) (pe_lst (pa_cons (pe_tup (pa_cons (pe_op (k_addP K) (pe_slice (k_sl K) (pv 0) po_none (po_some pe_int)) (pe_lst (pa_cons (pe_tup (pa_cons (pv 1) (pa_cons (pv 2) pa_nil))) pa_nil))) (pa_cons (pe_callB (call_minP rfl) rfl T.b_min (by decide +kernel) (pa_cons pe_int (pa_cons (pe_callB (k_len K) rfl T.b_len (by decide +kernel) (pa_cons (pv 0) pa_nil)) pa_nil))) pa_nil))) (pa_cons (pe_tup (pa_cons (pe_op (k_addP K) (pe_lst (pa_cons (pe_tup (pa_cons pe_str (pa_cons pe_int pa_nil))) pa_nil)) (pe_slice (k_sl K) (pv 0) (po_some pe_int) po_none)) (pa_cons pe_int pa_nil))) pa_nil))))))))), ?_⟩)
  · obtain ⟨a, xs, ws, rfl, _⟩ := h
    rfl
  · obtain ⟨a, xs, ws, rfl, ha, hd, hw, q⟩ := h
    rw [st_law_no_wants]
    walk_at "st"
    obtain ⟨w0, ws', rfl⟩ : ∃ w0 ws', ws = w0 :: ws' := by
      cases ws with
      | nil => exact absurd hw.l1 (by decide)
      | cons a b => exact ⟨a, b, rfl⟩
    obtain ⟨v0, xs', rfl, d0, hd'⟩ := DqAll.cons_inv hd
    replace hd' : DqAll H xs' (wsD ws') := hd'
    obtain ⟨T0, rfl, hT0⟩ : ∃ T0, v0 = .ref T0 ∧ H T0 = some (.tup [.str w0.1, .int (w0.2 : Int)]) := by
      cases d0 with
      | tup h1 h2 _ =>
        obtain ⟨u1, _, rfl, g1, h2⟩ := DqAll.cons_inv h2
        obtain ⟨u2, _, rfl, g2, h2⟩ := DqAll.cons_inv h2
        obtain rfl := DqAll.nil_inv h2
        rw [g1.strV, g2.intV] at h1
        exact ⟨_, rfl, h1⟩
    have hl1 : xs'.length = ws'.length := by rw [hd'.length, len_wsD]
    have hl2 : ws'.length ≤ 19 := by
      have := hw.l2
      rw [List.length_cons] at this
      omega
    have hc1 : cutV (V.ref T0 :: xs') (some 1) none = xs' := cut_from (V.ref T0 :: xs') 1
    have hc2 : cutV (V.ref T0 :: xs') none (some 19) = (V.ref T0 :: xs').take 19 := cut_to (V.ref T0 :: xs') 19
    have ht19 : ((V.ref T0 :: xs').take 19).length ≤ 19 := by
      rw [List.length_take]
      omega
    have hx0 : atI (V.ref T0 :: xs') 0 = some (.ref T0) := atI_nat (j := 0) rfl
    walk_at "rd"
    intro a1 G1 n1 s1 f1
    walk_at "rd"
    intro b1 G2 n2 s2 f2
    walk_at "rd"
    intro a2 G3 n3 s3 f3
    walk_at "rd"
    refine r_tupL (p := a) (xs := V.ref T0 :: xs') (by walk_at "lk") (fun b2 G4 n4 s4 f4 => ?_)
    walk_at "rd"
    intro a3 G5 n5 s5 f5
    walk_at "rd"
    intro c1 G6 n6 s6 f6
    walk_at "rd"
    intro c2 G7 n7 s7 f7
    walk_at "rd"
    rw [show (21 : Int) - (((V.ref T0 :: xs').length : Nat) : Int) = ((21 - (V.ref T0 :: xs').length : Nat) : Int) by rw [List.length_cons]; omega]
    refine r_rep (xs := [V.ref c1]) (by walk_at "lk") (by simp only [List.length_cons, List.length_nil]; omega) (by omega) (fun c3 G8 n8 s8 f8 => ?_)
    have f8' : G8 c3 = some (.lst (List.replicate (21 - (V.ref T0 :: xs').length) (V.ref c1))) := by
      rw [f8]
      congr 2
      exact repl1 _ _
    walk_at "rd"
    intro b3 G9 n9 s9 f9
    walk_at "rd"
    intro a4 G10 n10 s10 f10
    walk_at "rd"
    intro l1 G11 n11 s11 f11
    walk_at "rd"
    intro d1 G12 n12 s12 f12
    walk_at "rd"
    intro y0 G13 n13 s13 f13
    walk_at "rd"
    intro z0 G14 n14 s14 f14
    rw [hc1] at f14
    walk_at "rd"
    intro b4 G15 n15 s15 f15
    walk_at "rd"
    intro a5 G16 n16 s16 f16
    walk_at "rd"
    intro d3 G17 n17 s17 f17
    walk_at "rd"
    intro y1 G18 n18 s18 f18
    walk_at "rd"
    intro z1 G19 n19 s19 f19
    rw [hc1] at f19
    walk_at "rd"
    intro b5 G20 n20 s20 f20
    walk_at "rd"
    intro a6 G21 n21 s21 f21
    walk_at "rd"
    intro d5 G22 n22 s22 f22
    walk_at "rd"
    intro y2 G23 n23 s23 f23
    walk_at "rd"
    intro z2 G24 n24 s24 f24
    rw [hc1] at f24
    walk_at "rd"
    intro b6 G25 n25 s25 f25
    walk_at "rd"
    intro a7 G26 n26 s26 f26
    walk_at "rd"
    intro l2 G27 n27 s27 f27
    walk_at "rd"
    intro l3 G28 n28 s28 f28
    walk_at "rd"
    intro y7 G29 n29 s29 f29
    rw [hc2] at f29
    walk_at "rd"
    intro d7 G30 n30 s30 f30
    walk_at "rd"
    intro y8 G31 n31 s31 f31
    walk_at "rd"
    intro b7 G32 n32 s32 f32
    walk_at "rd"
    intro a8 G33 n33 s33 f33
    walk_at "rd"
    intro d8 G34 n34 s34 f34
    walk_at "rd"
    intro y9 G35 n35 s35 f35
    walk_at "rd"
    intro z9 G36 n36 s36 f36
    rw [hc1] at f36
    walk_at "rd"
    intro b8 G37 n37 s37 f37
    walk_at "rd"
    intro a9 G38 n38 s38 f38
    walk_at "rd"
    intro l4 G39 n39 s39 f39
    walk_at "rd"
    intro l5 G40 n40 s40 f40
    have k1 : G40 a1 = some (.tup [.non, .non]) := by walk_at "lk"
    have kb1 : G40 b1 = some (.lst []) := by walk_at "lk"
    have k2 : G40 a2 = some (.tup [.ref b1, .non]) := by walk_at "lk"
    have kb2 : G40 b2 = some (.tup (V.ref T0 :: xs')) := by walk_at "lk"
    have k3 : G40 a3 = some (.tup [.ref b2, .non]) := by walk_at "lk"
    have kc1 : G40 c1 = some (.tup [.str w0.1, .int 1]) := by walk_at "lk"
    have kb3 : G40 b3 = some (.lst (V.ref T0 :: xs' ++ List.replicate (21 - (V.ref T0 :: xs').length) (V.ref c1))) := by walk_at "lk"
    have k4 : G40 a4 = some (.tup [.ref b3, .non]) := by walk_at "lk"
    have kd1 : G40 d1 = some (.tup [.str w0.1, .bl true]) := by walk_at "lk"
    have kb4 : G40 b4 = some (.lst ([V.ref d1] ++ xs')) := by walk_at "lk"
    have k5 : G40 a5 = some (.tup [.ref b4, .int 0]) := by walk_at "lk"
    have kd3 : G40 d3 = some (.tup [.str w0.1, .int (-1)]) := by walk_at "lk"
    have kb5 : G40 b5 = some (.lst ([V.ref d3] ++ xs')) := by walk_at "lk"
    have k6 : G40 a6 = some (.tup [.ref b5, .int 0]) := by walk_at "lk"
    have kd5 : G40 d5 = some (.lst [.str w0.1, .int (w0.2 : Int)]) := by walk_at "lk"
    have kb6 : G40 b6 = some (.lst ([V.ref d5] ++ xs')) := by walk_at "lk"
    have k7 : G40 a7 = some (.tup [.ref b6, .int 0]) := by walk_at "lk"
    have kd7 : G40 d7 = some (.tup [.str w0.1, .int (w0.2 : Int)]) := by walk_at "lk"
    have kb7 : G40 b7 = some (.lst ((V.ref T0 :: xs').take 19 ++ [V.ref d7])) := by walk_at "lk"
    have k8 : ∃ v, v = .int ((min 19 (w0 :: ws').length : Nat) : Int) ∧ G40 a8 = some (.tup [.ref b7, v]) := by
      refine ⟨_, ?_, by walk_at "lk"⟩
      rw [List.length_cons, List.length_cons, hl1]
      split
      · rw [Nat.min_eq_right (by omega)]
      · rw [Nat.min_eq_left (by omega)]
        rfl
    have kd8 : G40 d8 = some (.tup [.str (Str.ofString "A"), .int 1]) := by walk_at "lk"
    have kb8 : G40 b8 = some (.lst ([V.ref d8] ++ xs')) := by walk_at "lk"
    have k9 : G40 a9 = some (.tup [.ref b8, .int 0]) := by walk_at "lk"
    have kf : G40 l5 = some (.lst [.ref a1, .ref a2, .ref a3, .ref a4, .ref a5, .ref a6, .ref a7, .ref a8, .ref a9]) := by walk_at "lk"
    have s0 : Same H G40 := by walk_at "sm"
    have nH : H l5 = none := by walk_at "fn"
    have hd2 := hd.up s0
    have hd3 := hd'.up s0
    clear f1 f2 f3 f4 f5 f6 f7 f8 f8' f9 f10 f11 f12 f13 f14 f15 f16 f17 f18 f19 f20 f21 f22 f23 f24 f25 f26 f27 f28 f29 f30 f31 f32 f33 f34 f35 f36 f37 f38 f39 f40
    clear n1 n2 n3 n4 n5 n6 n7 n8 n9 n10 n11 n12 n13 n14 n15 n16 n17 n18 n19 n20 n21 n22 n23 n24 n25 n26 n27 n28 n29 n30 n31 n32 n33 n34 n35 n36 n37 n38 n39 n40
    have hnl : w0.1.length ≤ 1000000 := by
      have := hw.nm w0 List.mem_cons_self
      unfold nameOk at this
      rw [Bool.and_eq_true_iff, decide_eq_true_iff, ← len_tl] at this
      omega
    have hwl : (wsD ws').length ≤ 19 := by rw [len_wsD]; exact hl2
    have hl3 : ([V.ref T0] ++ xs').length ≤ 20 := by simp; omega
    refine q l5 _ G40 s0 nH kf rfl ?_
    intro p hp
    simp only [List.mem_cons, List.not_mem_nil, or_false] at hp
    rcases hp with rfl | rfl | rfl | rfl | rfl | rfl | rfl | rfl | rfl
    · exact ⟨_, _, _, .none, rfl, k1, .non, rfl⟩
    · exact ⟨_, _, _, .list [], rfl, k2, .lst kb1 .nil (by decide), rfl⟩
    · exact ⟨_, _, _, .tuple (wsD (w0 :: ws')), rfl, k3, .tup kb2 hd2 (by rw [List.length_cons]; omega), rfl⟩
    · refine ⟨_, _, _, .list (wsD (w0 :: ws') ++ List.replicate (21 - (V.ref T0 :: xs').length) (.tuple [.str w0.1, .int 1])), rfl, k4, .lst kb3 (DqAll.app hd2 (replQ _ (.tup kc1 (.cons (.str _ hnl) (.cons (.int _) .nil)) (by simp)))) (by rw [List.length_append, List.length_replicate, List.length_cons]; omega), ?_⟩
      refine if_neg (fun h => ?_)
      rw [List.length_append, List.length_replicate, len_wsD, List.length_cons, List.length_cons] at h
      omega
    · exact ⟨_, _, _, .list (.tuple [.str w0.1, .bool true] :: wsD ws'), rfl, k5, .lst kb4 (.cons (.tup kd1 (.cons (.str _ hnl) (.cons (.bl _) .nil)) (by simp)) hd3) (by simp; omega), badFirst (wn2 (by show (_ && false) = false; rw [Bool.and_false])) hwl⟩
    · exact ⟨_, _, _, .list (.tuple [.str w0.1, .int (-1)] :: wsD ws'), rfl, k6, .lst kb5 (.cons (.tup kd3 (.cons (.str _ hnl) (.cons (.int _) .nil)) (by simp)) hd3) (by simp; omega), badFirst (wn2 (by show (_ && false) = false; rw [Bool.and_false])) hwl⟩
    · exact ⟨_, _, _, .list (.list [.str w0.1, .int (w0.2 : Int)] :: wsD ws'), rfl, k7, .lst kb6 (.cons (.lst kd5 (.cons (.str _ hnl) (.cons (.int _) .nil)) (by simp)) hd3) (by simp; omega), badFirst rfl hwl⟩
    · obtain ⟨v, rfl, k8⟩ := k8
      have ht : DqAll G40 ((V.ref T0 :: xs').take 19) (wsD ((w0 :: ws').take 19)) := by
        unfold wsD
        rw [List.map_take]
        exact takeQ hd2 19
      refine ⟨_, _, _, .list (wsD ((w0 :: ws').take 19) ++ [wantD w0]), rfl, k8, .lst kb7 (DqAll.app ht (.cons (.tup kd7 (.cons (.str _ hnl) (.cons (.int _) .nil)) (by simp)) .nil)) (by rw [List.length_append, List.length_singleton]; omega), badTwice hw rfl⟩
    · exact ⟨_, _, _, .list (.tuple [.str (Str.ofString "A"), .int 1] :: wsD ws'), rfl, k9, .lst kb8 (.cons (.tup kd8 (.cons (.str _ (by decide +kernel)) (.cons (.int _) .nil)) (by simp)) hd3) (by simp; omega), badFirst (wn2 (by decide +kernel)) hwl⟩
end
end My

namespace My
open PySem PySem.Spec PyProof.Rows L2 Z M SX TL
section
variable {P : Program} {w : World} {K : PySem.W.Frag} {mg : Str → Option Value} {base : Heap}
theorem put_perm {xs : List V} {js : List Nat} (p : js.Perm (List.range xs.length)) : xs.Perm (putJ xs js) := by
  have h1 := put_back p
  have h2 := p.map fun j => (putJ xs js).getD j .non
  rw [h1] at h2
  have h3 : ((List.range xs.length).map fun j => (putJ xs js).getD j .non) = putJ xs js := by
    refine List.ext_getElem? fun i => ?_
    rw [List.getElem?_map]
    by_cases hi : i < xs.length
    · rw [List.getElem?_range hi, Option.map_some, List.getD_eq_getElem?_getD, List.getElem?_eq_getElem (by rw [putJ_len]; exact hi)]
      rfl
    · rw [List.getElem?_eq_none (by rw [List.length_range]; omega), List.getElem?_eq_none (by rw [putJ_len]; omega)]
      rfl
  rw [h3] at h2
  exact h2
theorem dq_perm {H : Hp} {α : Type} {f : α → PyData} {xs ys : List V} (p : xs.Perm ys) : ∀ {ws : List α}, DqAll H xs (ws.map f) → ∃ ws', ws.Perm ws' ∧ DqAll H ys (ws'.map f) := by
  induction p with
  | nil => exact fun {ws} h => ⟨ws, .refl _, h⟩
  | cons x _ ih =>
    intro ws h
    cases ws with
    | nil => cases h
    | cons w ws =>
      cases h with
      | cons h1 h2 =>
        obtain ⟨ws', q1, q2⟩ := ih h2
        exact ⟨w :: ws', .cons _ q1, .cons h1 q2⟩
  | swap x y l =>
    intro ws h
    cases ws with
    | nil => cases h
    | cons w ws =>
      cases h with
      | cons h1 h2 =>
        cases ws with
        | nil => cases h2
        | cons w2 ws =>
          cases h2 with
          | cons h2 h3 => exact ⟨w2 :: w :: ws, .swap _ _ _, .cons h2 (.cons h1 h3)⟩
  | trans _ _ ih1 ih2 =>
    intro ws h
    obtain ⟨ws1, q1, q2⟩ := ih1 h
    obtain ⟨ws2, q3, q4⟩ := ih2 q2
    exact ⟨ws2, q1.trans q3, q4⟩
theorem WsOk.perm {ws ws' : List (Str × Nat)} (h : WsOk ws) (p : ws.Perm ws') : WsOk ws' where
  l1 := by rw [← p.length_eq]; exact h.l1
  l2 := by rw [← p.length_eq]; exact h.l2
  nd := (p.map (·.1)).nodup_iff.mp h.nd
  nm := fun w hw => h.nm w (p.mem_iff.mpr hw)
  ct := fun w hw => h.ct w (p.mem_iff.mpr hw)
theorem err_scal {d : PyData} {v : V} (h : wantsErr d = some v) : v = .non ∨ ∃ n : Int, v = .int n := by
  cases d with
  | list ds =>
    have h : (if 1 ≤ ds.length ∧ ds.length ≤ 20 then (wantsScan [] 0 ds).map fun i => V.int (i : Nat) else some .non) = some v := h
    split at h
    · cases e : wantsScan [] 0 ds with
      | none => rw [e] at h; cases h
      | some n => rw [e] at h; cases h; exact .inr ⟨_, rfl⟩
    · cases h; exact .inl rfl
  | _ => cases h; exact .inl rfl
def tx (k : Nat) : Str := S (97 :: List.replicate k 98)
def xsT (m : Nat) : List V := (List.range m).map fun k => V.str (tx k)
def dsT (m : Nat) : List PyData := (List.range m).map fun k => PyData.str (tx k)
theorem tx_low (k : Nat) : (tl (tx k)).all low = true := by
  have e : tl (tx k) = 97 :: List.replicate k 98 := rfl
  rw [e, List.all_cons, Bool.and_eq_true_iff]
  refine ⟨by decide, List.all_eq_true.mpr fun x hx => ?_⟩
  rw [(List.mem_replicate.mp hx).2]
  decide
theorem lay_map {α : Type} (f : α → Str) : ∀ l : List α, (∀ a ∈ l, PyData.strOk (f a) = true) → PyData.canLayAll0 (l.map fun a => PyData.str (f a)) = true ∧ PyData.depthAll (l.map fun a => PyData.str (f a)) = 0
  | [], _ => ⟨rfl, rfl⟩
  | a :: l, h => by
    obtain ⟨h1, h2⟩ := lay_map f l fun a ha => h a (List.mem_cons_of_mem _ ha)
    rw [List.map_cons, PyData.canLayAll0, PyData.depthAll, h1, h2, PyData.canLay0, h a List.mem_cons_self, PyData.depth]
    exact ⟨rfl, rfl⟩
theorem shaped_dsT (m : Nat) : SeqAt.shaped (.list (dsT m)) = true := by
  obtain ⟨h1, h2⟩ := lay_map tx (List.range m) fun a _ => strOk_low (tx_low a)
  unfold SeqAt.shaped dsT
  rw [PyData.canLay0, h1, PyData.depth, h2]
  rfl
theorem tx_len (k : Nat) : (tx k).length = k + 1 := by
  rw [len_tl]
  show (97 :: List.replicate k 98).length = _
  rw [List.length_cons, List.length_replicate]
theorem dq_T {H : Hp} : ∀ l : List Nat, (∀ k ∈ l, k ≤ 20) → DqAll H (l.map fun k => V.str (tx k)) (l.map fun k => PyData.str (tx k))
  | [], _ => .nil
  | k :: l, h => .cons (.str _ (by have := h k List.mem_cons_self; rw [tx_len]; omega)) (dq_T l fun k hk => h k (List.mem_cons_of_mem _ hk))
theorem dq_xsT {H : Hp} {m : Nat} (h : m ≤ 20) : DqAll H (xsT m) (dsT m) := dq_T _ fun k hk => by
  rw [List.mem_range] at hk
  omega
theorem len_xsT (m : Nat) : (xsT m).length = m := by
  unfold xsT
  rw [List.length_map, List.length_range]
theorem vsN_inj {a b : List Nat} (h : vsN a = vsN b) : a = b := by
  have := congrArg (List.map fun v => match v with | V.int i => i.toNat | _ => 0) h
  unfold vsN at this
  rw [List.map_map, List.map_map] at this
  have e : ((fun v => match v with | V.int i => i.toNat | _ => 0) ∘ fun j : Nat => V.int (j : Int)) = id := funext fun j => rfl
  rw [e, List.map_id, List.map_id] at this
  exact this
theorem ordT {m : Nat} {js : List Nat} (p : js.Perm (List.range m)) : ordOk m (.list (dsN js)) = true := by
  rw [ordOk_list, dsN_whole, intOfN, nat_ord p]
  rfl
theorem r_rgN {n : Nat} {H : Hp} {R : V → Hp → Prop} (hn : n ≤ 1000000) (q : ∀ l H', H l = none → Same H H' → H' l = some (.lst (vsN (List.range n))) → R (.ref l) H') : ∀ l, H l = none → R (.ref l) (upd H l (.lst (rgV 0 (n : Int)))) := fun l hl => q l _ hl (Same.new hl) (by
  rw [upd_same, rgV_eq]
  unfold rgL vsN
  rw [List.map_map]
  rfl)
def sp_law (K : PySem.W.Frag) : Sp := fun vs H Q _ => ∃ (a : Addr) (ns : List Int), vs = [.ref a] ∧ SqL K H a (ns.map V.int) ∧ ns.length ≤ 63 ∧ ∀ H', Q (.bl true) H'
theorem ok_law (T : Txt K mg) {fa : Addr} (hmg : mg "law" = some (.ref fa)) : ∃ fd : FuncData, (∀ (s : Shared) (u : Value), BindsTo s fd ⟨[u], []⟩ [("_law_script", u)]) ∧ ∀ base : Heap, FnOk P w K mg base CX0 6 fa fd ["_law_script"] (sp_law K) := by
  refine T.d_law.law hmg sc_law (fun vs H Q E h => ?_) (fun _ _ _ _ _ _ _ => rfl) (fun base f cdv A outer s H vs Q E hr h => ⟨_, (pss_cons (ps_set (i := 1) sc_law.nd rfl (Or.inl rfl) (pe_c0 (ok_law_wants T) hr (by decide) rfl (pa_cons (pv 0) (pa_cons pe_int (pa_cons (pe_op (k_addP K) pe_int (pe_ix (k_ix K) (pe_c0 (ok_law_draws T) hr (by decide) rfl (pa_cons (pe_c0 (ok_law_cell T) hr (by decide) rfl (pa_cons (pv 0) (pa_cons pe_int pa_nil))) (pa_cons pe_int (pa_cons (pe_lst (pa_cons pe_int pa_nil)) pa_nil)))) pe_int (fun _ _ => rfl))) pa_nil)))))
  (pss_cons (ps_setLc (i := 3) (own := [("_law_k", 2)]) rfl sc_law.nd rfl rfl (sw_true rfl rfl rfl (by decide +kernel)) (pi_range1 rfl T.b_range (pa_cons (pe_callB (k_len K) rfl T.b_len (by decide +kernel) (pa_cons (pv 1) pa_nil)) pa_nil)) (blkOk_by (N := ["_law_script", "_law_wants_here", "_law_k", "_law_texts", "_law_kept", "_law_cell_here", "_law_order_here", "_law_told", "_law_book", "_law_other", "_law_odd", "_law_thing", "_law_number_here", "_law_place"]) (sc := defScope s_law) (by decide +kernel)) (fun _ _ _ _ _ => (pg_name (i := 2) sc_law.nd rfl (Or.inl rfl))) (fun _ _ _ _ _ => pts_nil) (fun _ _ _ _ _ => (pe_op (k_addP K) pe_str (pe_op op_mulS pe_str (pv 2)))))
  (pss_cons (ps_set (i := 4) sc_law.nd rfl (Or.inl rfl) (pe_callTy (k_list K) rfl T.b_list (by decide +kernel) (pa_cons (pv 1) pa_nil)))
  (pss_cons (ps_for PassesOwn.never rfl (k_iE K (by rfl) T.b_enumerate (pa_cons (pe_op (k_addP K) (pe_lst (pa_cons pe_int pa_nil)) (pe_slice (k_sl K) (pv 0) (po_some pe_int) (po_some pe_int))) pa_nil)) (k_tup K rfl (pgs_cons (pg_name (i := 2) sc_law.nd rfl (Or.inl rfl)) (pgs_cons (pg_name (i := 5) sc_law.nd rfl (Or.inl rfl)) pgs_nil)))
  (pss_cons (ps_set (i := 6) sc_law.nd rfl (Or.inr rfl) (pe_c0 (ok_law_order T) hr (by decide) rfl (pa_cons (pv 5) (pa_cons (pe_op (k_addP K) pe_int (pv 2)) (pa_cons (pe_callB (k_len K) rfl T.b_len (by decide +kernel) (pa_cons (pv 1) pa_nil)) pa_nil)))))
  (Evl.pss_cut (ps_if (pt_cmpR (k_eqP K hr.units) (pe_op op_modP (pv 2) pe_int) pe_int (nomark _))
  (pss_one (ps_set (i := 6) sc_law.nd rfl (Or.inr rfl) (pe_listRg rfl rfl T.b_list (prg_1 rfl T.b_range (pe_callB (k_len K) rfl T.b_len (by decide +kernel) (pa_cons (pv 1) pa_nil)))))) pss_nil)
  (pss_cons (ps_set (i := 7) sc_law.nd rfl (Or.inr rfl) (pe_ce (ok_put_wants T) hr (by decide) rfl takes0 (pa_cons (pv 1) (pa_cons (pv 6) pa_nil))))
  (pss_cons (ps_set (i := 8) sc_law.nd rfl (Or.inr rfl) (pe_ce (ok_put_book T) hr (by decide) rfl takes0 (pa_cons (pv 3) (pa_cons (pv 6) pa_nil))))
  (pss_cons (ps_if (PW.pt (pw_or (pt_cmpR (k_neP K hr.units) (pe_lc (own := [("_law_place", 13)]) rfl sc_law.nd (k_iL K (pv 6)) (blkOk_by (N := ["_law_script", "_law_wants_here", "_law_k", "_law_texts", "_law_kept", "_law_cell_here", "_law_order_here", "_law_told", "_law_book", "_law_other", "_law_odd", "_law_thing", "_law_number_here", "_law_place"]) (sc := defScope s_law) (by decide +kernel)) (fun _ _ _ _ _ => (pg_name (i := 13) sc_law.nd rfl (Or.inl rfl))) (fun _ _ _ _ _ => pts_nil) (fun _ _ _ _ _ => (pe_ix (k_ix K) (pv 7) (pv 13) (fun _ _ => rfl)))) (pv 4) (nomark _)) (pw_or (pt_cmpR (k_neP K hr.units) (pe_lc (own := [("_law_place", 13)]) rfl sc_law.nd (k_iL K (pv 6)) (blkOk_by (N := ["_law_script", "_law_wants_here", "_law_k", "_law_texts", "_law_kept", "_law_cell_here", "_law_order_here", "_law_told", "_law_book", "_law_other", "_law_odd", "_law_thing", "_law_number_here", "_law_place"]) (sc := defScope s_law) (by decide +kernel)) (fun _ _ _ _ _ => (pg_name (i := 13) sc_law.nd rfl (Or.inl rfl))) (fun _ _ _ _ _ => pts_nil) (fun _ _ _ _ _ => (pe_ix (k_ix K) (pv 8) (pv 13) (fun _ _ => rfl)))) (pv 3) (nomark _)) (pw_or1 (pt_cmpR (k_neP K hr.units) (pv 1) (pv 4) (nomark _))))))
  (pss_one (ps_ret pe_bl)) pss_nil)
  (pss_cons (ps_setLc (i := 9) (own := [("_law_place", 13)]) rfl sc_law.nd rfl rfl (sw_true rfl rfl rfl (by decide +kernel)) (pi_range1 rfl T.b_range (pa_cons (pe_callB (k_len K) rfl T.b_len (by decide +kernel) (pa_cons (pv 6) pa_nil)) pa_nil)) (blkOk_by (N := ["_law_script", "_law_wants_here", "_law_k", "_law_texts", "_law_kept", "_law_cell_here", "_law_order_here", "_law_told", "_law_book", "_law_other", "_law_odd", "_law_thing", "_law_number_here", "_law_place"]) (sc := defScope s_law) (by decide +kernel)) (fun _ _ _ _ _ => (pg_name (i := 13) sc_law.nd rfl (Or.inl rfl))) (fun _ _ _ _ _ => pts_nil) (fun _ _ _ _ _ => (k_bm K PySem.F.plainAttrs_list PySem.F.slot_list_index PySem.F.type_list_index (k_index K) (pv 6) (pa_cons (pv 13) pa_nil))))
  (pss_cons (ps_if (PW.pt (pw_or (pt_cmpR (k_neP K hr.units) (pe_ce (ok_put_wants T) hr (by decide) rfl takes0 (pa_cons (pv 7) (pa_cons (pv 9) pa_nil))) (pv 4) (nomark _)) (pw_or (pt_cmpR (k_neP K hr.units) (pe_ce (ok_put_book T) hr (by decide) rfl takes0 (pa_cons (pv 8) (pa_cons (pv 9) pa_nil))) (pv 3) (nomark _)) (pw_or1 (pt_cmpR (k_neP K hr.units) (pe_callB (k_len K) rfl T.b_len (by decide +kernel) (pa_cons (pv 7) pa_nil)) (pe_callB (k_len K) rfl T.b_len (by decide +kernel) (pa_cons (pv 4) pa_nil)) (nomark _))))))
  (pss_one (ps_ret pe_bl)) pss_nil)
  (pss_cons (ps_expr (k_bm0 K PySem.F.plainAttrs_list PySem.F.slot_list_clear PySem.F.type_list_clear mt_clear (pv 7)))
  (pss_cons (ps_expr (k_bm K PySem.F.plainAttrs_list PySem.F.slot_list_append PySem.F.type_list_append mt_append (pv 8) (pa_cons pe_str pa_nil)))
  (pss_cons (ps_if (PW.pt (pw_or (pt_cmpR (k_neP K hr.units) (pv 1) (pv 4) (nomark _)) (pw_or (pt_cmpR (k_neP K hr.units) (pe_callB (k_len K) rfl T.b_len (by decide +kernel) (pa_cons (pv 3) pa_nil)) (pe_callB (k_len K) rfl T.b_len (by decide +kernel) (pa_cons (pv 4) pa_nil)) (nomark _)) (pw_or1 (pt_cmpR (k_neP K hr.units) (pe_callB (k_len K) rfl T.b_len (by decide +kernel) (pa_cons (pe_ce (ok_put_book T) hr (by decide) rfl takes0 (pa_cons (pv 3) (pa_cons (pv 6) pa_nil))) pa_nil)) (pe_callB (k_len K) rfl T.b_len (by decide +kernel) (pa_cons (pv 4) pa_nil)) (nomark _))))))
  (pss_one (ps_ret pe_bl)) pss_nil)
  (pss_cons (ps_set (i := 10) sc_law.nd rfl (Or.inl rfl) (pe_c0 (ok_law_no_order T) hr (by decide) rfl (pa_cons (pv 6) (pa_cons (pv 5) (pa_cons (pe_op (k_addP K) pe_int (pv 2)) pa_nil)))))
  (pss_cons (ps_if (pt_not (pt_val (pe_c0 (ok_law_refused T) hr (by decide) rfl (pa_cons (pe_ix (k_ix K) (pe_lst (pa_cons (pv 1) (pa_cons (pv 3) pa_nil))) (pe_op op_modP (pv 2) pe_int) (fun _ _ => rfl)) (pa_cons (pv 10) (pa_cons (pe_op op_modP (pv 2) pe_int) pa_nil))))))
  (pss_one (ps_ret pe_bl)) pss_nil)
  (pss_cons (ps_asg (pe_ix (k_ix K) (pe_c0 (ok_law_no_wants T) hr (by decide) rfl (pa_cons (pv 1) pa_nil)) (pe_ix (k_ix K) (pe_c0 (ok_law_draws T) hr (by decide) rfl (pa_cons (pv 5) (pa_cons (pe_op (k_addP K) pe_int (pv 2)) (pa_cons (pe_lst (pa_cons pe_int pa_nil)) pa_nil)))) pe_int (fun _ _ => rfl)) (fun _ _ => rfl)) (k_tup K rfl (pgs_cons (pg_name (i := 11) sc_law.nd rfl (Or.inl rfl)) (pgs_cons (pg_name (i := 12) sc_law.nd rfl (Or.inl rfl)) pgs_nil))))
  (pss_one (ps_if (pt_cmpR (k_neP K hr.units) (pe_c0 (ok_law_number T) hr (by decide) rfl (pa_cons (pv 11) (pa_cons (pe_ix (k_ix K) (pe_lst (pa_cons (pv 6) (pa_cons (pv 10) pa_nil))) (pe_op op_modP (pv 2) pe_int) (fun _ _ => rfl)) pa_nil))) (pv 12) (nomark _))
  (pss_one (ps_ret pe_bl)) pss_nil))))))))))))))))
  (pss_one (ps_ret (pe_cmpR (k_eqP K hr.units) (pe_ce (ok_put_book T) hr (by decide) rfl takes0 (pa_cons (pe_lst pa_nil) (pa_cons (pe_lst pa_nil) pa_nil))) (pe_lst pa_nil) (nomark _)))))))), ?_⟩)
  · obtain ⟨a, ns, rfl, _⟩ := h
    rfl
  · obtain ⟨a, ns, rfl, ha, hl, q⟩ := h
    rw [st_law]
    walk_at "st"
    walk_at "rd"
    refine ⟨a, ns, 0, rfl, ha, fun c => ?_⟩
    walk_at "rd"
    intro l1 H1 hl1 e1 f1
    walk_at "rd"
    refine ⟨c, 0, l1, [20], rfl, by decide, by decide, f1, by decide, fun rs o1 H2 hd ho1 e2 f2 => ?_⟩
    obtain ⟨hr1, hr2⟩ := hd
    have hr1' : rs.length = 1 := hr1
    have hr3 : rs[0] < 20 := hr2 0 (by omega) (by decide)
    have a0 : atI (vsN rs) 0 = some (.int (rs[0] : Nat)) := at_vs (n := 0) rfl (by omega)
    clear hr2
    walk_at "rd"
    refine ⟨a, ns, 1, 1 + rs[0], by rw [Int.natCast_add]; rfl, by walk_at "lk", by decide, by omega, by omega, fun ws wl xs H3 hw hwm hwl e3 f3 hq => ?_⟩
    have hm1 := hw.l1
    have hm2 := hw.l2
    have hxl : xs.length = ws.length := by rw [hq.length, len_wsD]
    walk_at "rd"
    refine lcW walk_r0 (fun i acc _ => acc = (List.range i).map fun k => V.str (tx k)) rfl (fun _ _ => trivial) (fun _ _ => rfl) ?_ ?_
    · rintro i x acc Dl G1 _ hi hD g1 g2 hl2 rfl ⟨rfl, rfl⟩
      obtain ⟨mo, mt⟩ := mulC 98 (by decide) ⟨i, by omega⟩
      have en : Str.ofString "a" ++ Txt.mul (S [98]) ((i : Nat) : Int) = tx i := ext_tl (by rw [tl_append, mt]; rfl)
      have hml : (Txt.mul (S [98]) ((i : Nat) : Int)).length = i := by
        rw [len_tl, mt, List.length_replicate]
      walk_at "rd"
      rw [show Str.ofString "b" = S [98] by decide +kernel]
      refine r_mulS ?_ mo
      refine r_addS ?_ (szl (by
        have : (Str.ofString "a").length = 1 := by decide +kernel
        omega))
      rw [en]
      walk_at "rd"
      refine lc_put (by omega) hD g1 g2 hl2 fun H5 _ _ => ?_
      rw [List.range_succ, List.map_append]
      rfl
    rintro acc tl_ H4 htl e4 f4 rfl
    rw [show (((xs.length : Nat) : Int)).toNat = xs.length by omega] at f4
    replace f4 : H4 tl_ = some (.lst (xsT xs.length)) := f4
    walk_at "rd"
    intro kl H5 hkl e5 f5
    walk_at "rd"
    intro c1 H6 hc1 e6 f6
    walk_at "rd"
    intro c2 H7 hc2 e7 f7
    obtain ⟨cs, ec, hcs⟩ := cut_ints ns (some 2) (some 40)
    rw [ec] at f7
    walk_at "rd"
    intro c3 H8 hc3 e8 f8
    replace f8 : H8 c3 = some (.lst ((0 :: cs).map V.int)) := f8
    have F1 : H8 wl = some (.lst xs) := by walk_at "lk"
    have F2 : H8 tl_ = some (.lst (xsT xs.length)) := by walk_at "lk"
    have F3 : H8 kl = some (.lst xs) := by walk_at "lk"
    have dq : DqAll H8 xs (wsD ws) := hq.up (e4.trans (e5.trans (e6.trans (e7.trans e8))))
    have hzx : xs.length ≤ 20 := by omega
    have hzT : (xsT xs.length).length = xs.length := len_xsT _
    clear f1 f2 f3 f4 f5 f6 f7 e1 e2 e3 e4 e5 e6 e7 e8 hl1 ho1 hwl htl hkl hc1 hc2 hc3 a0 hr1 hr1' hr3 hwm hq
    walk_at "rd"
    refine forW (walk_enum (xs := (0 :: cs).map V.int)) (fun i σ H2 => ∃ (z2 z5 z6 z7 z8 z9 z10 z11 z12 : Option V), σ = [some (.ref a), some (.ref wl), z2, some (.ref tl_), some (.ref kl), z5, z6, z7, z8, z9, z10, z11, z12, none] ∧ Same H8 H2) ⟨_, _, _, _, _, _, _, _, _, rfl, Same.refl _⟩ (fun i σ H2 _ ⟨_, _, _, _, _, _, _, _, _, _, e⟩ => by walk_at "lk") ?_ ?_
    · rintro i x σ G0 G1 hi ⟨z2, z5, z6, z7, z8, z9, z10, z11, z12, rfl, g0⟩ y
      obtain ⟨T1, x1, x2, rfl, hT, rfl, hx1, hx2⟩ := y
      have g1 : Same G0 (upd G0 T1 (.tup [x1, x2])) := Same.new hT
      have h1 : (upd G0 T1 (.tup [x1, x2])) T1 = some (.tup [x1, x2]) := upd_same
      revert g1 h1
      generalize upd G0 T1 (.tup [x1, x2]) = G1
      intro g1 h1
      obtain rfl : V.int (i : Nat) = x1 := Option.some.inj hx1
      have hi2 : i < 64 := by
        rw [List.length_map, List.length_cons] at hi
        omega
      obtain ⟨ck, rfl⟩ : ∃ ck : Int, x2 = V.int ck := by
        have hx2 : ((0 :: cs).map V.int)[i]? = some x2 := hx2
        rw [List.getElem?_map] at hx2
        cases e : (0 :: cs)[i]? with
        | none => rw [e] at hx2; cases hx2
        | some ck => rw [e] at hx2; exact ⟨ck, (Option.some.inj hx2).symm⟩
      have s8 : Same H8 G1 := g0.trans g1
      clear g0 hT hx1 hx2
      walk_at "rd"
      refine ⟨ck, 10 + i, xs.length, by rw [Int.natCast_add]; rfl, by omega, hzx, fun js o G2 hp ho s2 h2 => ?_⟩
      walk_at "rd"
      refine r_cut (fun σ' H' => ∃ o js, σ' = [some (.ref a), some (.ref wl), some (.int i), some (.ref tl_), some (.ref kl), some (.int ck), some (.ref o), z7, z8, z9, z10, z11, z12, none] ∧ Same H8 H' ∧ H' o = some (.lst (vsN js)) ∧ js.Perm (List.range xs.length)) ?_ ?_
      · walk_at "rd"
        refine r_ite (fun hk => ?_) (fun hk => ?_)
        · walk_at "rd"
          refine ⟨RgOk.of_le (by decide) (by omega) (by decide) (by omega), r_rgN (R := fun v H' => gName 6 v _ H' _) (by omega) (fun l H' hl e f => ?_)⟩
          walk_at "rd"
          exact ⟨l, List.range xs.length, rfl, s8.trans (s2.trans e), f, .refl _⟩
        · walk_at "rd"
          exact ⟨o, js, rfl, s8.trans s2, h2, hp⟩
      clear s8 s2 h2 hp ho g1 h1
      clear js o
      rintro σ' G2 ⟨o, js, rfl, s2, h2, hp⟩
      have hjl : js.length = xs.length := pr_len hp
      have hjv : (vsN js).length = xs.length := by rw [len_vsN, hjl]
      have F1' : G2 wl = some (.lst xs) := by walk_at "lk"
      have F2' : G2 tl_ = some (.lst (xsT xs.length)) := by walk_at "lk"
      have F3' : G2 kl = some (.lst xs) := by walk_at "lk"
      have dq2 : DqAll G2 xs (wsD ws) := dq.up s2
      have hpT : js.Perm (List.range (xsT xs.length).length) := by rw [hzT]; exact hp
      have dqo : ∀ {H'}, H' o = some (.lst (vsN js)) → Dq H' (.ref o) (.list (dsN js)) := fun h => .lst h (dqN js) (by omega)
      have eo : ordOk ws.length (.list (dsN js)) = true := by rw [← hxl]; exact ordT hp
      walk_at "rd"
      -- told
      refine ⟨.ref wl, .ref o, .list (wsD ws), .list (dsN js), rfl, .lst F1' dq2 (by omega), dqo h2, fun v hv => (by rw [wantsErr_ok hw] at hv; cases hv), fun _ ho => ?_, fun _ a1 xs1 b1 js1 q1 q2 q3 q4 q5 lt G3 hlt s3 h3 => ?_⟩
      · have ho : ordOk (wsD ws).length (.list (dsN js)) = false := ho
        rw [len_wsD, eo] at ho
        cases ho
      cases q1
      cases q3
      rw [F1'] at q2
      cases q2
      rw [h2] at q4
      obtain rfl := vsN_inj (HO.lst.inj (Option.some.inj q4))
      clear q4 q5
      walk_at "rd"
      refine ⟨tl_, xsT xs.length, .ref o, .list (dsN js), rfl, by walk_at "lk", by omega, dqo (by walk_at "lk"), fun ho => ?_, fun b1 js1 q3 q4 q5 lb G4 hlb s4 h4 => ?_⟩
      · rw [ordT hpT] at ho
        cases ho
      cases q3
      rw [s3 _ _ h2] at q4
      obtain rfl := vsN_inj (HO.lst.inj (Option.some.inj q4))
      clear q4 q5
      have es4 : Same G2 G4 := s3.trans s4
      have h3' : G4 lt = some (.lst (putJ xs js)) := s4 _ _ h3
      have h2' : G4 o = some (.lst (vsN js)) := es4 _ _ h2
      walk_at "rd"
      refine lcW (walk_list (xs := vsN js)) (fun i acc _ => acc = (js.take i).map fun j => (putJ xs js).getD j .non) rfl (fun _ _ => by walk_at "lk") (fun _ _ => rfl) ?_ ?_
      · rintro i x acc Dl H2 H3 hi hD e1 e2 hl2 rfl y
        obtain ⟨rfl, hx⟩ := y
        have hi2 : i < js.length := by omega
        obtain rfl : V.int (js[i] : Nat) = x := by
          have hx : (vsN js)[i]? = some x := hx
          unfold vsN at hx
          rw [List.getElem?_map, List.getElem?_eq_getElem hi2] at hx
          exact Option.some.inj hx
        have hb : js[i] < (putJ xs js).length := by rw [putJ_len]; exact pr_lt hp (List.getElem_mem hi2)
        have hat : atI (putJ xs js) (js[i] : Int) = some ((putJ xs js).getD js[i] .non) := atI_nat (by rw [List.getD_eq_getElem?_getD, List.getElem?_eq_getElem hb]; rfl)
        walk_at "rd"
        refine lc_put (by omega) hD e1 e2 hl2 fun H5 _ _ => ?_
        rw [← List.take_append_getElem hi2, List.map_append]
        rfl
      rintro acc D1 G5 hD1 s5 h5 rfl
      rw [hjv, ← hjl, List.take_length, put_back hp] at h5
      have dw : ∀ {H'}, Same H8 H' → DpAll K H' xs (wsD ws) := fun h => DqAll.dp (dq.up h) (wsD_lay ws hw.nm).1
      have dt : ∀ {H'}, DpAll K H' (xsT xs.length) (dsT xs.length) := fun {H'} => DqAll.dp (dq_xsT hzx) (lay_map tx (List.range xs.length) fun a _ => strOk_low (tx_low a)).1
      have eT : PyData.eqv (.list (dsT xs.length)) (.list (dsT xs.length)) = true := SeqAt.eqv_refl _ (shaped_lay (shaped_dsT _))
      walk_at "rd"
      refine r_neD (d := .list (wsD ws)) (e := .list (wsD ws)) (.lst (sqL h5) (dw (s2.trans (es4.trans s5)))) (.lst (sqL ((s2.trans (es4.trans s5)) _ _ F3)) (dw (s2.trans (es4.trans s5)))) ?_ (wsD_shaped hw) (wsD_shaped hw)
      rw [wsD_eqv hw]
      walk_at "rd"
      have h2'' : G5 o = some (.lst (vsN js)) := by walk_at "lk"
      have h3'' : G5 lt = some (.lst (putJ xs js)) := by walk_at "lk"
      have h4'' : G5 lb = some (.lst (putJ (xsT xs.length) js)) := by walk_at "lk"
      refine lcW (walk_list (xs := vsN js)) (fun i acc _ => acc = (js.take i).map fun j => (putJ (xsT xs.length) js).getD j .non) rfl (fun _ _ => by walk_at "lk") (fun _ _ => rfl) ?_ ?_
      · rintro i x acc Dl H2 H3 hi hD e1 e2 hl2 rfl y
        obtain ⟨rfl, hx⟩ := y
        have hi2 : i < js.length := by omega
        obtain rfl : V.int (js[i] : Nat) = x := by
          have hx : (vsN js)[i]? = some x := hx
          unfold vsN at hx
          rw [List.getElem?_map, List.getElem?_eq_getElem hi2] at hx
          exact Option.some.inj hx
        have hb : js[i] < (putJ (xsT xs.length) js).length := by rw [putJ_len]; exact pr_lt hpT (List.getElem_mem hi2)
        have hat : atI (putJ (xsT xs.length) js) (js[i] : Int) = some ((putJ (xsT xs.length) js).getD js[i] .non) := atI_nat (by rw [List.getD_eq_getElem?_getD, List.getElem?_eq_getElem hb]; rfl)
        walk_at "rd"
        refine lc_put (by omega) hD e1 e2 hl2 fun H5 _ _ => ?_
        rw [← List.take_append_getElem hi2, List.map_append]
        rfl
      rintro acc D2 G6 hD2 s6 h6 rfl
      rw [hjv, ← hjl, List.take_length, put_back (by rw [hjl]; exact hpT)] at h6
      rw [hjl] at h6
      have F2'' : G6 tl_ = some (.lst (xsT xs.length)) := by walk_at "lk"
      walk_at "rd"
      refine r_neD (d := .list (dsT xs.length)) (e := .list (dsT xs.length)) (.lst (sqL h6) dt) (.lst (sqL F2'') dt) ?_ (shaped_dsT _) (shaped_dsT _)
      rw [eT]
      have F1'' : G6 wl = some (.lst xs) := by walk_at "lk"
      have F3'' : G6 kl = some (.lst xs) := by walk_at "lk"
      have es6 : Same H8 G6 := s2.trans (es4.trans (s5.trans s6))
      have dw6 := dw es6
      have dq6 := dq.up es6
      clear es6
      walk_at "rd"
      refine r_neD (d := .list (wsD ws)) (e := .list (wsD ws)) (.lst (sqL F1'') dw6) (.lst (sqL F3'') dw6) ?_ (wsD_shaped hw) (wsD_shaped hw)
      rw [wsD_eqv hw]
      walk_at "rd"
      refine lcW walk_r0 (fun i acc _ => acc = vsN ((List.range i).map fun q => js.idxOf q)) rfl (fun _ _ => trivial) (fun _ _ => rfl) ?_ ?_
      · rintro i x acc Dl H2 _ hi hD e1 e2 hl2 rfl ⟨rfl, rfl⟩
        have hi2 : i < xs.length := by omega
        obtain ⟨v1, v2⟩ := inv_at hp hi2
        walk_at "rd"
        refine r_indexI (js := js) (j := js.idxOf i) (by walk_at "lk") (pr_nd hp) v1 v2 ?_
        refine lc_put (by omega) hD e1 e2 hl2 fun H5 _ _ => ?_
        rw [List.range_succ, List.map_append]
        unfold vsN
        rw [List.map_append]
        rfl
      rintro acc lo G7 hlo s7 h7 rfl
      rw [show (((vsN js).length : Nat) : Int).toNat = js.length by rw [len_vsN]; omega] at h7
      replace h7 : G7 lo = some (.lst (vsN (invJ js))) := h7
      have hip : (invJ js).Perm (List.range xs.length) := inv_perm hp
      have hip1 : (invJ js).Perm (List.range (putJ xs js).length) := by rw [putJ_len]; exact hip
      have hip2 : (invJ js).Perm (List.range (putJ (xsT xs.length) js).length) := by rw [putJ_len, hzT]; exact hip
      have hil : (vsN (invJ js)).length ≤ 20 := by rw [len_vsN, pr_len hip]; exact hzx
      obtain ⟨ws', pw, dqt⟩ := dq_perm (f := wantD) (put_perm hp) dq6
      have hw' := hw.perm pw
      have hwl' : (wsD ws').length = xs.length := by rw [len_wsD, ← pw.length_eq, ← hxl]
      have h3t : G7 lt = some (.lst (putJ xs js)) := by walk_at "lk"
      have h4t : G7 lb = some (.lst (putJ (xsT xs.length) js)) := by walk_at "lk"
      have hpl : (putJ xs js).length ≤ 20 := by rw [putJ_len]; exact hzx
      have hpl2 : (putJ (xsT xs.length) js).length ≤ 20 := by rw [putJ_len, hzT]; exact hzx
      walk_at "rd"
      refine ⟨.ref lt, .ref lo, .list (wsD ws'), .list (dsN (invJ js)), rfl, .lst h3t (dqt.up s7) (by omega), .lst h7 (dqN _) (by omega), fun v hv => (by rw [wantsErr_ok hw'] at hv; cases hv), fun _ ho => ?_, fun _ a1 xs1 b1 js1 q1 q2 q3 q4 q5 l8 G8 hl8 s8 h8 => ?_⟩
      · have ho : ordOk (wsD ws').length (.list (dsN (invJ js))) = false := ho
        rw [hwl', ordT hip] at ho
        cases ho
      cases q1
      cases q3
      rw [h3t] at q2
      cases q2
      rw [h7] at q4
      obtain rfl := vsN_inj (HO.lst.inj (Option.some.inj q4))
      clear q4 q5
      rw [put_inv hp] at h8
      have F3t : G8 kl = some (.lst xs) := by walk_at "lk"
      have dw8 := dw (s2.trans (es4.trans (s5.trans (s6.trans (s7.trans s8)))))
      walk_at "rd"
      refine r_neD (d := .list (wsD ws)) (e := .list (wsD ws)) (.lst (sqL h8) dw8) (.lst (sqL F3t) dw8) ?_ (wsD_shaped hw) (wsD_shaped hw)
      rw [wsD_eqv hw]
      have h4u : G8 lb = some (.lst (putJ (xsT xs.length) js)) := by walk_at "lk"
      have h7u : G8 lo = some (.lst (vsN (invJ js))) := by walk_at "lk"
      walk_at "rd"
      refine ⟨lb, putJ (xsT xs.length) js, .ref lo, .list (dsN (invJ js)), rfl, h4u, by omega, .lst h7u (dqN _) (by omega), fun ho => ?_, fun b1 js1 q3 q4 q5 l9 G9 hl9 s9 h9 => ?_⟩
      · rw [ordT hip2] at ho
        cases ho
      cases q3
      rw [h7u] at q4
      obtain rfl := vsN_inj (HO.lst.inj (Option.some.inj q4))
      clear q4 q5
      rw [put_inv hpT] at h9
      have F2t : G9 tl_ = some (.lst (xsT xs.length)) := by walk_at "lk"
      walk_at "rd"
      refine r_neD (d := .list (dsT xs.length)) (e := .list (dsT xs.length)) (.lst (sqL h9) dt) (.lst (sqL F2t) dt) ?_ (shaped_dsT _) (shaped_dsT _)
      rw [eT]
      have h3v : G9 lt = some (.lst (putJ xs js)) := by walk_at "lk"
      have F3v : G9 kl = some (.lst xs) := by walk_at "lk"
      walk_at "rd"
      rw [putJ_len]
      refine r_nite (fun h => absurd rfl h) (fun _ => ?_)
      walk_at "rd"
      refine r_clear h3v (fun G10 b10 h10 => ?_)
      have nlb : lb ≠ lt := by walk_at "ne"
      have h4v : G10 lb = some (.lst (putJ (xsT xs.length) js)) := b10 _ _ nlb (s9 _ _ h4u)
      walk_at "rd"
      intro G11 b11 h11
      have K1 : G11 wl = some (.lst xs) := by walk_at "lk"
      have K2 : G11 tl_ = some (.lst (xsT xs.length)) := by walk_at "lk"
      have K3 : G11 kl = some (.lst xs) := by walk_at "lk"
      have K4 : G11 o = some (.lst (vsN js)) := by walk_at "lk"
      have g11 : Same H8 G11 := by walk_at "sm"
      have dw11 := dw g11
      have dq11 := dq.up g11
      clear h10 h11 b10 b11 h4v h4u h3v h9 s9 hl9 h8 s8 hl8 h7 s7 h7u h3t h4t F3v F2t F3t dw8 hlo F1'' F2'' F3'' dw6 dq6 h6 s6 hD2 h2'' h3'' h4'' h5 s5 hD1 h2' h3' h4 s4 hlb h3 s3 hlt es4 dq2 F1' F2' F3' h2 s2 nlb hpl hpl2 hil
      walk_at "rd"
      refine r_neD (d := .list (wsD ws)) (e := .list (wsD ws)) (.lst (sqL K1) dw11) (.lst (sqL K3) dw11) ?_ (wsD_shaped hw) (wsD_shaped hw)
      rw [wsD_eqv hw]
      walk_at "rd"
      rw [hzT]
      refine r_nite (fun h => absurd rfl h) (fun _ => ?_)
      walk_at "rd"
      refine ⟨tl_, xsT xs.length, .ref o, .list (dsN js), rfl, K2, by omega, dqo K4, fun ho => ?_, fun b1 js1 q3 q4 q5 l12 G12 hl12 s12 h12 => ?_⟩
      · rw [ordT hpT] at ho
        cases ho
      cases q3
      rw [K4] at q4
      obtain rfl := vsN_inj (HO.lst.inj (Option.some.inj q4))
      clear q4 q5
      walk_at "rd"
      rw [putJ_len, hzT]
      refine r_nite (fun h => absurd rfl h) (fun _ => ?_)
      walk_at "rd"
      refine ⟨o, js, ck, 50 + i, by rw [Int.natCast_add]; rfl, by walk_at "lk", by rw [hjl]; exact hp, by omega, by omega, by omega, fun ov od G13 s13 hod hoo => ?_⟩
      rw [hjl] at hoo
      have hpar : ∃ (ra : Addr) (rx : List V), atI [V.ref wl, V.ref tl_] ((i : Int) % 2) = some (.ref ra) ∧ (∀ H', Same G11 H' → H' ra = some (.lst rx)) ∧ rx.length = xs.length ∧ ((i : Int) % 2 = 0 → rx = xs) := by
        rcases (show (i : Int) % 2 = 0 ∨ (i : Int) % 2 = 1 by omega) with hk | hk
        · rw [hk]
          exact ⟨wl, xs, atI_nat (j := 0) rfl, fun H' e => e _ _ K1, rfl, fun _ => rfl⟩
        · rw [hk]
          exact ⟨tl_, xsT xs.length, atI_nat (j := 1) rfl, fun H' e => e _ _ K2, hzT, fun h => by cases h⟩
      obtain ⟨ra, rx, hat, hra, hrl, hr0⟩ := hpar
      walk_at "rd"
      intro l14 G14 hl14 s14 h14
      walk_at "rd"
      refine ⟨ra, rx, ov, od, (i : Int) % 2, rfl, hra _ (s12.trans (s13.trans s14)), by omega, hod.up s14, by rw [hrl]; exact hoo, fun hk => ⟨wsD ws, by rw [hr0 hk]; exact dq11.up (s12.trans (s13.trans s14)), wantsErr_ok hw⟩, fun G15 s15 => ?_⟩
      walk_at "rd"
      refine ⟨wl, xs, ws, rfl, by walk_at "lk", dq11.up (s12.trans (s13.trans (s14.trans s15))), hw, fun pl ps G16 s16 hpl h16 hps hpp => ?_⟩
      walk_at "rd"
      intro l17 G17 hl17 s17 h17
      walk_at "rd"
      refine ⟨ck, 90 + i, l17, [9], by rw [Int.natCast_add]; rfl, by omega, by decide, h17, by decide, fun rs o1 G18 hd ho1 s18 h18 => ?_⟩
      obtain ⟨hr1, hr2⟩ := hd
      have hr1' : rs.length = 1 := hr1
      have hr3 : rs[0] < 9 := hr2 0 (by omega) (by decide)
      have a0 : atI (vsN rs) 0 = some (.int (rs[0] : Nat)) := at_vs (n := 0) rfl (by omega)
      clear hr2
      obtain ⟨pv, hpv, hpm⟩ := at_in (xs := ps) (z := ((rs[0] : Nat) : Int)) (by omega) (by omega)
      obtain ⟨T3, tv, nv, td, rfl, hT3, hdq, hwe⟩ := hpp pv hpm
      walk_at "rd"
      intro l19 G19 hl19 s19 h19
      have g19 : Same G11 G19 := s12.trans (s13.trans (s14.trans (s15.trans (s16.trans (s17.trans (s18.trans s19))))))
      have hsel : ∃ sv sd, atI [V.ref o, ov] ((i : Int) % 2) = some sv ∧ Dq G19 sv sd := by
        rcases (show (i : Int) % 2 = 0 ∨ (i : Int) % 2 = 1 by omega) with hk | hk
        · rw [hk]
          exact ⟨.ref o, .list (dsN js), atI_nat (j := 0) rfl, dqo (g19 _ _ K4)⟩
        · rw [hk]
          exact ⟨ov, od, atI_nat (j := 1) rfl, hod.up (s14.trans (s15.trans (s16.trans (s17.trans (s18.trans s19)))))⟩
      clear g19
      obtain ⟨sv, sd, hsv, hsd⟩ := hsel
      walk_at "rd"
      refine ⟨tv, sv, td, sd, nv, rfl, hdq.up (s17.trans (s18.trans s19)), hsd, hwe, fun G20 s20 => ?_⟩
      walk_at "rd"
      have hsc : scal nv nv = true := by
        rcases err_scal hwe with rfl | ⟨n, rfl⟩ <;> rfl
      refine r_ne ?_ hsc
      walk_at "rd"
      refine r_nite (fun h => absurd rfl h) (fun _ => ?_)
      walk_at "rd"
      exact ⟨_, _, _, _, _, _, _, _, _, rfl, g11.trans (s12.trans (s13.trans (s14.trans (s15.trans (s16.trans (s17.trans (s18.trans (s19.trans s20))))))))⟩
    · rintro σ H2 ⟨z2, z5, z6, z7, z8, z9, z10, z11, z12, rfl, g0⟩
      walk_at "rd"
      intro e1 G1 n1 s1 h1
      walk_at "rd"
      intro e2 G2 n2 s2 h2
      walk_at "rd"
      have h1' : G2 e1 = some (.lst []) := s2 _ _ h1
      refine ⟨e1, [], .ref e2, .list [], rfl, h1', by decide, .lst h2 .nil (by decide), fun ho => (by cases ho), fun b1 js1 q3 q4 q5 l12 G12 hl12 s12 h12 => ?_⟩
      rw [show putJ [] js1 = [] from List.length_eq_zero_iff.mp (by rw [putJ_len]; rfl)] at h12
      walk_at "rd"
      intro e3 G13 n13 s13 h13
      walk_at "rd"
      refine r_eqD (d := .list []) (e := .list []) (.lst (sqL (s13 _ _ h12)) .nil) (.lst (sqL h13) .nil) ?_ rfl rfl
      rw [show PyData.eqv (.list []) (.list []) = true from rfl]
      walk_at "rd"
      exact q _
end
/-! ### the head: facts by names, the run -/
def dd_is_whole : He.DefD := ⟨("is_whole", none), "is_whole", "is_whole", defArgs s_is_whole, defBody s_is_whole, defScope s_is_whole, [], []⟩
def dd_is_name : He.DefD := ⟨("is_name", none), "is_name", "is_name", defArgs s_is_name, defBody s_is_name, defScope s_is_name, [], []⟩
def dd_is_want : He.DefD := ⟨("is_want", none), "is_want", "is_want", defArgs s_is_want, defBody s_is_want, defScope s_is_want, [], []⟩
def dd_look_at_wants : He.DefD := ⟨("look_at_wants", none), "look_at_wants", "look_at_wants", defArgs s_look_at_wants, defBody s_look_at_wants, defScope s_look_at_wants, [], []⟩
def dd_look_at_order : He.DefD := ⟨("look_at_order", none), "look_at_order", "look_at_order", defArgs s_look_at_order, defBody s_look_at_order, defScope s_look_at_order, [], []⟩
def dd_put_so : He.DefD := ⟨("put_so", none), "put_so", "put_so", defArgs s_put_so, defBody s_put_so, defScope s_put_so, [], []⟩
def dd_put_wants : He.DefD := ⟨("put_wants", none), "put_wants", "put_wants", defArgs s_put_wants, defBody s_put_wants, defScope s_put_wants, [], []⟩
def dd_put_book : He.DefD := ⟨("put_book", none), "put_book", "put_book", defArgs s_put_book, defBody s_put_book, defScope s_put_book, [], []⟩
def dd_law_cell : He.DefD := ⟨("_law_cell", none), "_law_cell", "_law_cell", defArgs s_law_cell, defBody s_law_cell, defScope s_law_cell, [], []⟩
def dd_law_draws : He.DefD := ⟨("_law_draws", none), "_law_draws", "_law_draws", defArgs s_law_draws, defBody s_law_draws, defScope s_law_draws, [], []⟩
def dd_law_low : He.DefD := ⟨("_law_low", none), "_law_low", "_law_low", defArgs s_law_low, defBody s_law_low, defScope s_law_low, [], []⟩
def dd_law_wants : He.DefD := ⟨("_law_wants", none), "_law_wants", "_law_wants", defArgs s_law_wants, defBody s_law_wants, defScope s_law_wants, [], []⟩
def dd_law_is_no_turn : He.DefD := ⟨("_law_is_no_turn", none), "_law_is_no_turn", "_law_is_no_turn", defArgs s_law_is_no_turn, defBody s_law_is_no_turn, defScope s_law_is_no_turn, [], []⟩
def dd_law_order : He.DefD := ⟨("_law_order", none), "_law_order", "_law_order", defArgs s_law_order, defBody s_law_order, defScope s_law_order, [], []⟩
def dd_law_no_order : He.DefD := ⟨("_law_no_order", none), "_law_no_order", "_law_no_order", defArgs s_law_no_order, defBody s_law_no_order, defScope s_law_no_order, [], []⟩
def dd_law_refused : He.DefD := ⟨("_law_refused", none), "_law_refused", "_law_refused", defArgs s_law_refused, defBody s_law_refused, defScope s_law_refused, [], []⟩
def dd_law_no_wants : He.DefD := ⟨("_law_no_wants", none), "_law_no_wants", "_law_no_wants", defArgs s_law_no_wants, defBody s_law_no_wants, defScope s_law_no_wants, [], []⟩
def dd_law_number : He.DefD := ⟨("_law_number", none), "_law_number", "_law_number", defArgs s_law_number, defBody s_law_number, defScope s_law_number, [], []⟩
def dd_law : He.DefD := ⟨("law", none), "law", "law", defArgs s_law, defBody s_law, defScope s_law, [], []⟩
def di_NoTongue : He.DefD := ⟨("NoTongue", some "__init__"), "__init__", "NoTongue.__init__", defArgs si_NoTongue, defBody si_NoTongue, defScope si_NoTongue, [], []⟩
def di_NoWants : He.DefD := ⟨("NoWants", some "__init__"), "__init__", "NoWants.__init__", defArgs si_NoWants, defBody si_NoWants, defScope si_NoWants, [], []⟩
def di_NoThing : He.DefD := ⟨("NoThing", some "__init__"), "__init__", "NoThing.__init__", defArgs si_NoThing, defBody si_NoThing, defScope si_NoThing, [], []⟩
def di_BadSign : He.DefD := ⟨("BadSign", some "__init__"), "__init__", "BadSign.__init__", defArgs si_BadSign, defBody si_BadSign, defScope si_BadSign, [], []⟩
def di_NoText : He.DefD := ⟨("NoText", some "__init__"), "__init__", "NoText.__init__", defArgs si_NoText, defBody si_NoText, defScope si_NoText, [], []⟩
def fn : List He.DefD := [dd_is_whole, dd_is_name, dd_is_want, dd_look_at_wants, dd_look_at_order, dd_put_so, dd_put_wants, dd_put_book, dd_law_cell, dd_law_draws, dd_law_low, dd_law_wants, dd_law_is_no_turn, dd_law_order, dd_law_no_order, dd_law_refused, dd_law_no_wants, dd_law_number, dd_law, di_NoTongue, di_NoWants, di_NoThing, di_BadSign, di_NoText]
def fa : List He.Fa := [.glo "is_whole", .glo "is_name", .glo "is_want", .glo "look_at_wants", .glo "look_at_order", .glo "put_so", .glo "put_wants", .glo "put_book", .glo "_law_cell", .glo "_law_draws", .glo "_law_low", .glo "_law_wants", .glo "_law_is_no_turn", .glo "_law_order", .glo "_law_no_order", .glo "_law_refused", .glo "_law_no_wants", .glo "_law_number", .glo "law", .free "ValueError", .free "abs", .free "all", .free "bool", .free "enumerate", .free "int", .free "isinstance", .free "len", .free "list", .free "min", .free "range", .free "sorted", .free "str", .free "tuple", .str "LETTERS" "abcdefghijklmnopqrstuvwxyz", .int "LONGEST" 8, .int "MOST_THINGS" 20, .int "GREATEST_COUNT" 1000000000, .glo "DearError", .glo "NoNumber", .glo "NoBook", .glo "NoTree", .glo "TooMany", .glo "NoCount", .glo "NoUndo", .glo "NoTurn", .glo "NoRow", .glo "Unknown", .glo "NoTongue", .glo "NoWants", .glo "NoThing", .glo "BadSign", .glo "NoText"]
abbrev R : PySem.W.OpenRow := PySem.W.OpenLaw.row PySem.Challenge.rw_dearsigns_k58_orders_of_things
def exb : PySem.W.Frag → Bool := Z.exsB "DearError" ecs ems ens
abbrev hk : PySem.W.Hook := Z.hookE 5 fa fn exb
def ob (s : PySem.W.SharedT) : Z.AlE := Z.obsE 5 fa fn exb (HandSHeadRun.getT s)
theorem ob_eq (s : PySem.W.SharedT) : ob s = hk.obs s.abs := Z.obsE_eq (HandSHeadRun.getT_eq s)
def loose0 : List Str := ["DearError", "NoNumber", "NoBook", "NoTree", "TooMany", "NoCount", "NoUndo", "NoTurn", "NoRow", "Unknown", "NoTongue", "NoWants", "NoThing", "BadSign", "NoText", "LETTERS", "LONGEST", "is_whole", "is_name", "MOST_THINGS", "GREATEST_COUNT", "is_want", "look_at_wants", "look_at_order", "put_so", "put_wants", "put_book", "_law_cell", "_law_draws", "_law_low"]
def loose1 : List Str := ["_law_wants", "_law_is_no_turn", "_law_order", "_law_no_order", "_law_refused", "_law_no_wants", "_law_number"]
def loose : List Str := loose0 ++ loose1
set_option maxHeartbeats 0 in
theorem run (w : World) : HandSHeadRun.RunEq R (PySem.W.view R.prog [42]) hk ob 8000 loose w := by
  intro os
  kernel_rfl
theorem facts {K : PySem.W.Frag} {h : Heap} {mg : Str → Option Value} (X : K.In h) (G : h.Ns mainGlobals mg) (c : Z.SaysE fa fn exb K) : Txt K mg where
  ex := Z.exsB_ok X G c.more
  i_NoTongue := by
    obtain ⟨fd, F⟩ := c.d.def_ 19 (d := di_NoTongue) rfl
    exact ⟨fd, F⟩
  i_NoWants := by
    obtain ⟨fd, F⟩ := c.d.def_ 20 (d := di_NoWants) rfl
    exact ⟨fd, F⟩
  i_NoThing := by
    obtain ⟨fd, F⟩ := c.d.def_ 21 (d := di_NoThing) rfl
    exact ⟨fd, F⟩
  i_BadSign := by
    obtain ⟨fd, F⟩ := c.d.def_ 22 (d := di_BadSign) rfl
    exact ⟨fd, F⟩
  i_NoText := by
    obtain ⟨fd, F⟩ := c.d.def_ 23 (d := di_NoText) rfl
    exact ⟨fd, F⟩
  d_is_whole := by
    obtain ⟨fd, F⟩ := c.d.def_ 0 (d := dd_is_whole) rfl
    exact ⟨_, fd, F, He.glo_ok X G (c.d.fact 0 (f := .glo "is_whole") rfl)⟩
  d_is_name := by
    obtain ⟨fd, F⟩ := c.d.def_ 1 (d := dd_is_name) rfl
    exact ⟨_, fd, F, He.glo_ok X G (c.d.fact 1 (f := .glo "is_name") rfl)⟩
  d_is_want := by
    obtain ⟨fd, F⟩ := c.d.def_ 2 (d := dd_is_want) rfl
    exact ⟨_, fd, F, He.glo_ok X G (c.d.fact 2 (f := .glo "is_want") rfl)⟩
  d_look_at_wants := by
    obtain ⟨fd, F⟩ := c.d.def_ 3 (d := dd_look_at_wants) rfl
    exact ⟨_, fd, F, He.glo_ok X G (c.d.fact 3 (f := .glo "look_at_wants") rfl)⟩
  d_look_at_order := by
    obtain ⟨fd, F⟩ := c.d.def_ 4 (d := dd_look_at_order) rfl
    exact ⟨_, fd, F, He.glo_ok X G (c.d.fact 4 (f := .glo "look_at_order") rfl)⟩
  d_put_so := by
    obtain ⟨fd, F⟩ := c.d.def_ 5 (d := dd_put_so) rfl
    exact ⟨_, fd, F, He.glo_ok X G (c.d.fact 5 (f := .glo "put_so") rfl)⟩
  d_put_wants := by
    obtain ⟨fd, F⟩ := c.d.def_ 6 (d := dd_put_wants) rfl
    exact ⟨_, fd, F, He.glo_ok X G (c.d.fact 6 (f := .glo "put_wants") rfl)⟩
  d_put_book := by
    obtain ⟨fd, F⟩ := c.d.def_ 7 (d := dd_put_book) rfl
    exact ⟨_, fd, F, He.glo_ok X G (c.d.fact 7 (f := .glo "put_book") rfl)⟩
  d_law_cell := by
    obtain ⟨fd, F⟩ := c.d.def_ 8 (d := dd_law_cell) rfl
    exact ⟨_, fd, F, He.glo_ok X G (c.d.fact 8 (f := .glo "_law_cell") rfl)⟩
  d_law_draws := by
    obtain ⟨fd, F⟩ := c.d.def_ 9 (d := dd_law_draws) rfl
    exact ⟨_, fd, F, He.glo_ok X G (c.d.fact 9 (f := .glo "_law_draws") rfl)⟩
  d_law_low := by
    obtain ⟨fd, F⟩ := c.d.def_ 10 (d := dd_law_low) rfl
    exact ⟨_, fd, F, He.glo_ok X G (c.d.fact 10 (f := .glo "_law_low") rfl)⟩
  d_law_wants := by
    obtain ⟨fd, F⟩ := c.d.def_ 11 (d := dd_law_wants) rfl
    exact ⟨_, fd, F, He.glo_ok X G (c.d.fact 11 (f := .glo "_law_wants") rfl)⟩
  d_law_is_no_turn := by
    obtain ⟨fd, F⟩ := c.d.def_ 12 (d := dd_law_is_no_turn) rfl
    exact ⟨_, fd, F, He.glo_ok X G (c.d.fact 12 (f := .glo "_law_is_no_turn") rfl)⟩
  d_law_order := by
    obtain ⟨fd, F⟩ := c.d.def_ 13 (d := dd_law_order) rfl
    exact ⟨_, fd, F, He.glo_ok X G (c.d.fact 13 (f := .glo "_law_order") rfl)⟩
  d_law_no_order := by
    obtain ⟨fd, F⟩ := c.d.def_ 14 (d := dd_law_no_order) rfl
    exact ⟨_, fd, F, He.glo_ok X G (c.d.fact 14 (f := .glo "_law_no_order") rfl)⟩
  d_law_refused := by
    obtain ⟨fd, F⟩ := c.d.def_ 15 (d := dd_law_refused) rfl
    exact ⟨_, fd, F, He.glo_ok X G (c.d.fact 15 (f := .glo "_law_refused") rfl)⟩
  d_law_no_wants := by
    obtain ⟨fd, F⟩ := c.d.def_ 16 (d := dd_law_no_wants) rfl
    exact ⟨_, fd, F, He.glo_ok X G (c.d.fact 16 (f := .glo "_law_no_wants") rfl)⟩
  d_law_number := by
    obtain ⟨fd, F⟩ := c.d.def_ 17 (d := dd_law_number) rfl
    exact ⟨_, fd, F, He.glo_ok X G (c.d.fact 17 (f := .glo "_law_number") rfl)⟩
  d_law := by
    obtain ⟨fd, F⟩ := c.d.def_ 18 (d := dd_law) rfl
    exact ⟨_, fd, F, He.glo_ok X G (c.d.fact 18 (f := .glo "law") rfl)⟩
  b_ValueError := He.free_ok X G (c.d.fact 19 (f := .free "ValueError") rfl)
  b_abs := He.free_ok X G (c.d.fact 20 (f := .free "abs") rfl)
  b_all := He.free_ok X G (c.d.fact 21 (f := .free "all") rfl)
  b_bool := He.free_ok X G (c.d.fact 22 (f := .free "bool") rfl)
  b_enumerate := He.free_ok X G (c.d.fact 23 (f := .free "enumerate") rfl)
  b_int := He.free_ok X G (c.d.fact 24 (f := .free "int") rfl)
  b_isinstance := He.free_ok X G (c.d.fact 25 (f := .free "isinstance") rfl)
  b_len := He.free_ok X G (c.d.fact 26 (f := .free "len") rfl)
  b_list := He.free_ok X G (c.d.fact 27 (f := .free "list") rfl)
  b_min := He.free_ok X G (c.d.fact 28 (f := .free "min") rfl)
  b_range := He.free_ok X G (c.d.fact 29 (f := .free "range") rfl)
  b_sorted := He.free_ok X G (c.d.fact 30 (f := .free "sorted") rfl)
  b_str := He.free_ok X G (c.d.fact 31 (f := .free "str") rfl)
  b_tuple := He.free_ok X G (c.d.fact 32 (f := .free "tuple") rfl)
  c_LETTERS := by
    obtain ⟨t, e⟩ := He.str_ok X G (c.d.fact 33 (f := .str "LETTERS" "abcdefghijklmnopqrstuvwxyz") rfl)
    exact ⟨_, e, t, rfl⟩
  c_LONGEST := by
    obtain ⟨t, e⟩ := He.int_ok X G (c.d.fact 34 (f := .int "LONGEST" 8) rfl)
    exact ⟨_, e, t, rfl⟩
  c_MOST_THINGS := by
    obtain ⟨t, e⟩ := He.int_ok X G (c.d.fact 35 (f := .int "MOST_THINGS" 20) rfl)
    exact ⟨_, e, t, rfl⟩
  c_GREATEST_COUNT := by
    obtain ⟨t, e⟩ := He.int_ok X G (c.d.fact 36 (f := .int "GREATEST_COUNT" 1000000000) rfl)
    exact ⟨_, e, t, rfl⟩
  k_DearError := He.glo_ok X G (c.d.fact 37 (f := .glo "DearError") rfl)
  k_NoNumber := He.glo_ok X G (c.d.fact 38 (f := .glo "NoNumber") rfl)
  k_NoBook := He.glo_ok X G (c.d.fact 39 (f := .glo "NoBook") rfl)
  k_NoTree := He.glo_ok X G (c.d.fact 40 (f := .glo "NoTree") rfl)
  k_TooMany := He.glo_ok X G (c.d.fact 41 (f := .glo "TooMany") rfl)
  k_NoCount := He.glo_ok X G (c.d.fact 42 (f := .glo "NoCount") rfl)
  k_NoUndo := He.glo_ok X G (c.d.fact 43 (f := .glo "NoUndo") rfl)
  k_NoTurn := He.glo_ok X G (c.d.fact 44 (f := .glo "NoTurn") rfl)
  k_NoRow := He.glo_ok X G (c.d.fact 45 (f := .glo "NoRow") rfl)
  k_Unknown := He.glo_ok X G (c.d.fact 46 (f := .glo "Unknown") rfl)
  k_NoTongue := He.glo_ok X G (c.d.fact 47 (f := .glo "NoTongue") rfl)
  k_NoWants := He.glo_ok X G (c.d.fact 48 (f := .glo "NoWants") rfl)
  k_NoThing := He.glo_ok X G (c.d.fact 49 (f := .glo "NoThing") rfl)
  k_BadSign := He.glo_ok X G (c.d.fact 50 (f := .glo "BadSign") rfl)
  k_NoText := He.glo_ok X G (c.d.fact 51 (f := .glo "NoText") rfl)
theorem law_starts {K : PySem.W.Frag} : ∀ (H : Hp) (a : Addr) (ns : List Int), ns.length ≤ 63 → Only H → SqL K H a (ns.map V.int) → sp_law K [.ref a] H (fun v _ => v = .bl true) fun _ _ _ => False := fun H a ns hl _ hS => ⟨a, ns, rfl, hS, hl, fun _ => rfl⟩
end My
open PySem PySem.W PySem.Calls PyProof.Rows
set_option maxHeartbeats 0 in
theorem PySem.Challenge.cw_dearsigns_k58_orders_of_things_holds : PySem.Challenge.rw_dearsigns_k58_orders_of_things.Holds := by
  w_on; o_law
  refine HandSHeadRun.head_any (r := OpenLaw.row PySem.Challenge.rw_dearsigns_k58_orders_of_things) (q := view (OpenLaw.row PySem.Challenge.rw_dearsigns_k58_orders_of_things).prog [42]) (H := My.hk) (ob := My.ob) (M := 8000) (loose := My.loose) (d := HandSHeadRun.topDef (OpenLaw.row PySem.Challenge.rw_dearsigns_k58_orders_of_things).prog 42) (kwd := []) My.ob_eq
    (by kernel_rfl) (fun s => by kernel_rfl) My.run (by kernel_rfl) (by kernel_rfl) (by kernel_rfl) (by rfl) (by first | assumption | decide +kernel) (by decide +kernel) ⟨rfl, rfl, rfl, rfl, rfl, by decide +kernel⟩ ?hw ?hc
  case hw => w_witness2
  case hc =>
    refine L2.walk_ofE (l := PySem.Challenge.rw_dearsigns_k58_orders_of_things) (n := 63) (k := 6) (x := "_law_script") (CX := L2.CX0) rfl (by decide) (by kernel_rfl) ⟨rfl, by decide, by decide⟩ ?F (fun _ _ _ _ z => z)
    intro w mg fa h Y G hmg0
    obtain ⟨K, KX, c⟩ := Y
    have hmg : mg ("law" : PySem.Str) = some (.ref fa) := by
      have e : (HandSHeadRun.topDef (OpenLaw.row PySem.Challenge.rw_dearsigns_k58_orders_of_things).prog 42).name = ("law" : PySem.Str) := by kernel_rfl
      rw [← e]
      exact hmg0
    have T : My.Txt K mg := My.facts KX G c
    obtain ⟨fd, hb, hF⟩ := My.ok_law (P := (PySem.Challenge.rw_dearsigns_k58_orders_of_things).prog) (w := w) T hmg
    exact ⟨K, fd, My.sp_law K, KX, hb, My.law_starts, fun base _ _ => hF base⟩

