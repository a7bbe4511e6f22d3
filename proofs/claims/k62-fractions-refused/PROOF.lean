import PyProof.Rows.All
import Wide.All
import OpenK.AllK
import Wide.FinOn
import HandS.ForMost
import HandS.Wide
import HandS.FStr
import HandS.IsInst
import HandS.Defaults
import HandS.Codes
import HandS.TupAny
import HandS.Exc
import HandS.WordsExc
import HandS.Steps
import HandS.Walk
import HandS.Evl
import HandS.Head0
import HandS.Head1
import HandS.Head2
import HandS.HeadEnd
import HandS.HeadHook1
import HandS.HeadHook2
import KE.KIsAll
import HandS.ExcInit
import HandS.ExcIs
import HandS.ExcField
import HandS.ExcOwn
import HandS.Small
import HandS.ClsMeth
import HandS.CallSlots
import HandS.ExcValue
import PySem.Challenge.RW_dearsigns_k62_fractions_refused
set_option Elab.async false
set_option linter.all false
set_option maxRecDepth 100000
set_option maxHeartbeats 4000000
/-! Zk: own reading steps over the hand layer. -/
namespace Z
open PySem PySem.Spec PyProof.Rows L2

/-! ### calls of defs, packed -/
structure Cf (P : Program) (w : World) (K : PySem.W.Frag) (mg : Str → Option Value) (base : Heap) (CX : CXT) (k : Nat) (x : Str) (sp : Sp) (dvs : List V) : Prop where
  ex : ∃ (f : Addr) (fd : FuncData) (ps : List Str) (ds : List Value), FnOk P w K mg base CX k f fd ps sp ∧ mg x = some (.ref f) ∧ PySem.W.keepIn K (.ref f) = true ∧ Binds K fd ps ds ∧ Vals dvs ds
abbrev C0 (P : Program) (w : World) (K : PySem.W.Frag) (mg : Str → Option Value) (base : Heap) (k : Nat) (x : Str) (sp : Sp) : Prop := Cf P w K mg base CX0 k x sp []
abbrev CE (P : Program) (w : World) (K : PySem.W.Frag) (mg : Str → Option Value) (base : Heap) (k : Nat) (x : Str) (sp : Sp) : Prop := Cf P w K mg base (L2.CX P w) k x sp []
theorem Cf.mono {P : Program} {w : World} {K : PySem.W.Frag} {mg : Str → Option Value} {base : Heap} {CX : CXT} {j k : Nat} {x : Str} {sp : Sp} {dvs : List V} (c : Cf P w K mg base CX j x sp dvs) (h : j ≤ k) : Cf P w K mg base CX k x sp dvs := by
  obtain ⟨f, fd, ps, ds, F, r⟩ := c.ex
  exact ⟨f, fd, ps, ds, F.mono h, r⟩
section
variable {X : Cx} {k j : Nat} {x : Str} {sp : Sp} {dvs : List V} {p pos : Pos} {e : Expr} {es : List Expr} {t : TA}
theorem pe_c0 (c : Cf X.prog X.w X.K X.mg X.base CX0 k x sp dvs) (hr : Room j X.A) (hk : k ≤ j) (hg : Gl X x) (ha : PA X (e :: es) t)
    (hdb : (x == ("__debug__" : Str)) = false := by decide) (he : starEach (e :: es) X.env = (false, eval e X.env) :: starEach es X.env := by rfl) (hpl : (backTo pos (starEach es X.env)).any (·.1) = false := by rfl) :
    PE X (.Call (.Name x p) (e :: es) [] pos) (tCall sp dvs E0 t) := by
  obtain ⟨f, fd, ps, ds, F, hm, kp, b, d⟩ := c.ex
  exact pe_call F (hr.mono hk) hg hm kp b d pass0 ha hdb he hpl
end
/-- a def as it stands behind the top -/
structure At (K : PySem.W.Frag) (mg : Str → Option Value) (g x : Str) (st : Stmt) (dvs : List V) : Prop where
  ex : ∃ (f : Addr) (fd : FuncData), FunD K x x (defArgs st) (defBody st) (defScope st) dvs [] f fd ∧ mg g = some (.ref f)
section
variable {P : Program} {w : World} {K : PySem.W.Frag} {mg : Str → Option Value} {base : Heap} {g x : Str} {st : Stmt} {dvs : List V}
/-- binding where nothing has a default; h is «fun _ _ _ _ _ _ us hl => match us, hl with | [_, _], _ => rfl» -/
theorem bd0 {ps : List Str} (h : ∀ (kV doc pm : Value) (an : Option Addr) (cdv ct : Value) (us : List Value), us.length = ps.length → bindArgs (PySem.W.fnOf x x (defArgs st) (defBody st) (defScope st) .none kV doc pm an cdv ct) ⟨us, []⟩ = pure (ps.zip us)) :
    ∀ (f : Addr) (fd : FuncData), FunD K x x (defArgs st) (defBody st) (defScope st) [] [] f fd → Binds K fd ps [] := fun f fd F => by
  obtain ⟨oc, od, dV, kV, doc, pm, an, cdv, ct, osl, rfl, _, _, hD, _⟩ := F.ex
  rcases hD with ⟨_, rfl⟩ | ⟨n, _⟩
  · exact .all (h kV doc pm an cdv ct)
  · exact absurd rfl n
/-- all given, some have defaults; h is «fun _ _ _ _ _ _ _ us its hu hi => match us, its, hu, hi with | [_, _], [_], _, _ => ⟨_, rfl, rfl⟩» -/
theorem bd1 {ps : List Str} (hd : dvs ≠ []) (h : ∀ (T : Addr) (kV doc pm : Value) (an : Option Addr) (cdv ct : Value) (us its : List Value), us.length = ps.length → its.length = dvs.length →
      ∃ k, bindArgs (PySem.W.fnOf x x (defArgs st) (defBody st) (defScope st) (.ref T) kV doc pm an cdv ct) ⟨us, []⟩ = seqItems? (.ref T) >>= k ∧ k (some its.toArray) = pure (ps.zip (us ++ its.drop dvs.length))) :
    ∀ (f : Addr) (fd : FuncData), FunD K x x (defArgs st) (defBody st) (defScope st) dvs [] f fd → Binds K fd ps [] := fun f fd F => by
  obtain ⟨ds, v, b⟩ := F.binds1 ps.length dvs.length hd (by omega) h
  rw [List.drop_length] at v
  cases v
  exact b
/-- THE RULE: h is «fun _ _ _ _ _ _ us hl => match us, hl with | [_, _], _ => rfl» -/
theorem At.c0 {N ps : List Str} {k : Nat} {sp : Sp} (F : At K mg g x st dvs) (S : FnScope N ps (defScope st)) (len : ∀ vs H Q E, sp vs H Q E → vs.length = ps.length)
    (b : ∀ (f : Addr) (fd : FuncData), FunD K x x (defArgs st) (defBody st) (defScope st) dvs [] f fd → Binds K fd ps [])
    (hbody : ∀ (f : Addr) (cdv : Value) (A : Around) (outer : List Env) (s : Shared) (H : Hp) (vs : List V) (Q : VK) (E : XK), Room k (A.deeper (envOfC x (defScope st) s.heap.objs.size f cdv)) → sp vs H Q E →
      ∃ t, PSs (cxOf CX0 P w K mg base N x (defScope st) f cdv A outer s H E).nox (defBody st) t ∧ t { nx := fun _ H' => Q .non H', rt := Q } (start N vs) H) : C0 P w K mg base (k + 1) g sp := by
  obtain ⟨f, fd, F, hm⟩ := F.ex
  have G : FnOk P w K mg base CX0 (k + 1) f fd ps sp := F.ok S len fun cdv A outer s H vs Q E hr h => by
    obtain ⟨t, h1, h2⟩ := hbody f cdv A outer s H vs Q E hr h
    exact ⟨t, h1.nox, h2⟩
  exact ⟨f, fd, ps, [], G, hm, F.kp, b f fd F, .nil⟩
theorem At.ce {N ps : List Str} {k : Nat} {sp : Sp} (F : At K mg g x st dvs) (S : FnScope N ps (defScope st)) (len : ∀ vs H Q E, sp vs H Q E → vs.length = ps.length)
    (b : ∀ (f : Addr) (fd : FuncData), FunD K x x (defArgs st) (defBody st) (defScope st) dvs [] f fd → Binds K fd ps [])
    (hbody : ∀ (f : Addr) (cdv : Value) (A : Around) (outer : List Env) (s : Shared) (H : Hp) (vs : List V) (Q : VK) (E : XK), Room k (A.deeper (envOfC x (defScope st) s.heap.objs.size f cdv)) → sp vs H Q E →
      ∃ t, PSs (cxOf (L2.CX P w) P w K mg base N x (defScope st) f cdv A outer s H E) (defBody st) t ∧ t { nx := fun _ H' => Q .non H', rt := Q } (start N vs) H) : CE P w K mg base (k + 1) g sp := by
  obtain ⟨f, fd, F, hm⟩ := F.ex
  have G : FnOk P w K mg base (L2.CX P w) (k + 1) f fd ps sp := F.ok S len fun cdv A outer s H vs Q E hr h => hbody f cdv A outer s H vs Q E hr h
  exact ⟨f, fd, ps, [], G, hm, F.kp, b f fd F, .nil⟩
end

section
variable {P : Program} {w : World} {K : PySem.W.Frag} {mg : Str → Option Value} {g x : Str} {st : Stmt} {dvs : List V}
/-- the law itself -/
theorem At.law {N : List Str} {p : Str} {k : Nat} {sp : Sp} {fa : Addr} (F : At K mg g x st []) (hmg : mg g = some (.ref fa)) (S : FnScope N [p] (defScope st)) (len : ∀ vs H Q E, sp vs H Q E → vs.length = 1)
    (b : ∀ (kV doc pm : Value) (an : Option Addr) (cdv ct : Value) (u : Value), bindArgs (PySem.W.fnOf x x (defArgs st) (defBody st) (defScope st) .none kV doc pm an cdv ct) ⟨[u], []⟩ = pure [(p, u)])
    (hbody : ∀ (base : Heap) (f : Addr) (cdv : Value) (A : Around) (outer : List Env) (s : Shared) (H : Hp) (vs : List V) (Q : VK) (E : XK), Room k (A.deeper (envOfC x (defScope st) s.heap.objs.size f cdv)) → sp vs H Q E →
      ∃ t, PSs (cxOf CX0 P w K mg base N x (defScope st) f cdv A outer s H E).nox (defBody st) t ∧ t { nx := fun _ H' => Q .non H', rt := Q } (start N vs) H) :
    ∃ fd : FuncData, (∀ (s : Shared) (u : Value), BindsTo s fd ⟨[u], []⟩ [(p, u)]) ∧ ∀ base : Heap, FnOk P w K mg base CX0 (k + 1) fa fd [p] sp := by
  obtain ⟨f, fd, F, hm⟩ := F.ex
  have e : fa = f := by
    have h := hmg.symm.trans hm
    injection h with h
    injection h
  subst e
  refine ⟨fd, ?_, fun base => F.ok S len fun cdv A outer s H vs Q E hr h => ?_⟩
  · obtain ⟨oc, od, dV, kV, doc, pm, an, cdv, ct, osl, rfl, _, _, hD, _⟩ := F.ex
    rcases hD with ⟨_, rfl⟩ | ⟨n, _⟩
    · exact fun s u => .of_eq (b kV doc pm an cdv ct u)
    · exact absurd rfl n
  · obtain ⟨t, h1, h2⟩ := hbody base fa cdv A outer s H vs Q E hr h
    exact ⟨t, h1.nox, h2⟩
end

/-! ### operations of several kinds -/
section
variable {X : Cx}
def rAddS : R2 := fun x y H Q => ∃ i j, x = .str i ∧ y = .str j ∧ i.length + j.length ≤ sizeLine ∧ Q (.str (i ++ j)) H
def rAddI : R2 := rI0 fun i j => .int (i + j)
def rAddP (K : PySem.W.Frag) : R2 := fun x y H Q => rAddI x y H Q ∨ rAddS x y H Q ∨ rCat x y H Q ∨ rCatA K x y H Q
theorem op_addP : OpR X (binaryOp .Add) (rAddP X.K) := OpR.or op_add (OpR.or op_add_str (OpR.or op_cat op_catA))
def CMulP (i j : Int) : Prop := CMul i j ∨ CMulW i j
theorem op_mulI : OpR X (binaryOp .Mult) (rI CMulP fun i j => .int (i * j)) := opI fun _ _ _ _ _ _ _ hc q => mul_int q (hc.elim CMul.ok CMulW.ok)
def rMulI : R2 := rI CMulP fun i j => .int (i * j)
def rMulP : R2 := fun x y H Q => rMulI x y H Q ∨ rRep x y H Q
theorem op_mulP : OpR X (binaryOp .Mult) rMulP := OpR.or op_mulI op_rep
def CDivP (i j : Int) : Prop := CDiv i j ∨ CDivW i j
theorem op_fdivP : OpR X (binaryOp .FloorDiv) (rI CDivP fun i j => .int (i / j)) := opI fun i j t u s Q E hc q => by
  have h1 : (0 : Int) < j := by rcases hc with h | h <;> exact h.1
  refine floordiv_int (by omega) (by rw [Int.fdiv_eq_ediv_of_nonneg i (by omega)]; exact q) (.inl ?_)
  rcases hc with h | h
  · have h2 := h.2
    exact PyProof.noPylong_small (by omega)
  · exact PyProof.noPylong_of_log2 h.2
def rDiv : R2 := rI CDivP fun i j => .int (i / j)
def rMod : R2 := rI (fun _ j => 0 < j) fun i j => .int (i % j)
def rSub : R2 := rI0 fun i j => .int (i - j)
def rPow : R2 := rI CPow fun i j => .int (i ^ j.toNat)
theorem op_div : OpR X (binaryOp .FloorDiv) rDiv := op_fdivP
theorem op_modP : OpR X (binaryOp .Mod) rMod := op_mod
theorem op_subI : OpR X (binaryOp .Sub) rSub := op_sub
theorem op_powI : OpR X (binaryOp .Pow) rPow := op_pow
def rEqP (K : PySem.W.Frag) : R2 := fun x y H Q => rEq x y H Q ∨ rEqD K x y H Q
def rNeP (K : PySem.W.Frag) : R2 := fun x y H Q => rNe x y H Q ∨ rNeD K x y H Q
theorem op_eqP (hu : X.A.units + 64 < cLine) : OpR X (compareOp .Eq) (rEqP X.K) := OpR.or op_eq (op_eqD hu)
theorem op_neP (hu : X.A.units + 64 < cLine) : OpR X (compareOp .NotEq) (rNeP X.K) := OpR.or op_ne (op_neD hu)
def rLtI : R2 := rI0 fun i j => .bl (decide (i < j))
def rLeI : R2 := rI0 fun i j => .bl (decide (i ≤ j))
def rGtI : R2 := rI0 fun i j => .bl (decide (j < i))
def rGeI : R2 := rI0 fun i j => .bl (decide (j ≤ i))
theorem op_ltI : OpR X (compareOp .Lt) rLtI := op_lt
theorem op_leI : OpR X (compareOp .LtE) rLeI := op_le
theorem op_gtI : OpR X (compareOp .Gt) rGtI := op_gt
theorem op_geI : OpR X (compareOp .GtE) rGeI := op_ge
def rIs : R2 := fun x y H Q => y = .non ∧ Q (.bl (decide (x = .non))) H
def rIsNot : R2 := fun x y H Q => y = .non ∧ Q (.bl (!decide (x = .non))) H
theorem op_isP : OpR X (compareOp .Is) rIs := op_isN
theorem op_isNotP : OpR X (compareOp .IsNot) rIsNot := op_notN
/-- one sign in a text; a flat thing in a list or tuple of flat things -/
def rInT (neg : Bool) : R2 := fun x y H Q => ∃ (c : Nat) (z : Str), x = .str ⟨#[c]⟩ ∧ y = .str z ∧ Q (.bl (if neg then !decide (c ∈ z.cps.toList) else decide (c ∈ z.cps.toList))) H
def rInP (K : PySem.W.Frag) (neg : Bool) : R2 := fun x y H Q => rInT neg x y H Q ∨ rIn K neg x y H Q
theorem op_inP : OpR X (compareOp .In) (rInP X.K false) := OpR.or op_in_sign op_in_seq
theorem op_notInP : OpR X (compareOp .NotIn) (rInP X.K true) := OpR.or op_notIn_sign op_notIn_seq
def rSlP (K : PySem.W.Frag) : V → Option Int → Option Int → Hp → VK → Prop := fun x lo hi H Q => rSlL K x lo hi H Q ∨ rSlS x lo hi H Q ∨ rSlA K x lo hi H Q
theorem sl_any : SlR X (rSlP X.K) := sl_list.or (sl_str.or sl_tupA)
/-- calls of builtins -/
def cLen (K : PySem.W.Frag) : List V → Hp → VK → Prop := fun xs H Q => ∃ x n, xs = [x] ∧ LenV K x H n ∧ Q (.int n) H
theorem call_lenP : CallR X (.builtin "len") (cLen X.K) := call_len
def cAbs : List V → Hp → VK → Prop := fun xs H Q => ∃ i, xs = [.int i] ∧ Q (.int (if i < 0 then -i else i)) H
theorem call_absP : CallR X (.builtin "abs") cAbs := call_abs
def cMax : List V → Hp → VK → Prop := fun xs H Q => ∃ i j, xs = [.int i, .int j] ∧ Q (.int (if j > i then j else i)) H
theorem call_maxP (hc : X.calm = true) : CallR X (.builtin "max") cMax := call_max2 hc
def cMin : List V → Hp → VK → Prop := fun xs H Q => ∃ i j, xs = [.int i, .int j] ∧ Q (.int (if j < i then j else i)) H
theorem call_minP (hc : X.calm = true) : CallR X (.builtin "min") cMin := call_min2 hc
def cStr : List V → Hp → VK → Prop := fun xs H Q => ∃ i, xs = [.int i] ∧ i.natAbs.log2 < 1920 ∧ Q (.str (toString i)) H
theorem call_strP : CallR X (.type "str") cStr := call_str_int
def cInt : List V → Hp → VK → Prop := fun xs H Q => ∃ a n, xs = [.str a] ∧ PySem.intText? a = some n ∧ a.length ≤ 640 ∧ Q (.int n) H
theorem call_intP : CallR X (.type "int") cInt := call_int_str
def cList (K : PySem.W.Frag) : List V → Hp → VK → Prop := fun xs H Q => ∃ p ys, xs = [.ref p] ∧ (SqL K H p ys ∨ SqT K H p ys) ∧ ∀ l, H l = none → Q (.ref l) (upd H l (.lst ys))
theorem call_listP : CallR X (.type "list") (cList X.K) := call_list_of
def mSplit : V → List V → Hp → VK → Prop := fun x xs H Q => ∃ a b, x = .str a ∧ xs = [.str b] ∧ (b.length == 0) = false ∧ a.length + 2 ≤ sizeLine ∧ rNewStrs (Txt.split a b) H Q
theorem mt_splitP : MtR X "str.split" mSplit := mt_split
def mJoin (K : PySem.W.Frag) : V → List V → Hp → VK → Prop := fun x xs H Q => ∃ a p, ∃ ys : List Str, x = .str a ∧ xs = [.ref p] ∧ (SqL K H p (ys.map V.str) ∨ SqT K H p (ys.map V.str)) ∧ (ys.map (·.length)).sum + ys.length * a.length ≤ 16777216 ∧ Q (.str (Txt.join a ys)) H
end

/-! the written part's name kept: K in place of X.K (a block's context is another one) -/
section
variable {X : Cx}
theorem k_addP (K : PySem.W.Frag) (hK : X.K = K := by rfl) : OpR X (binaryOp .Add) (rAddP K) := hK ▸ op_addP
theorem k_eqP (K : PySem.W.Frag) (hu : X.A.units + 64 < cLine) (hK : X.K = K := by rfl) : OpR X (compareOp .Eq) (rEqP K) := hK ▸ op_eqP hu
theorem k_neP (K : PySem.W.Frag) (hu : X.A.units + 64 < cLine) (hK : X.K = K := by rfl) : OpR X (compareOp .NotEq) (rNeP K) := hK ▸ op_neP hu
theorem k_inP (K : PySem.W.Frag) (hK : X.K = K := by rfl) : OpR X (compareOp .In) (rInP K false) := hK ▸ op_inP
theorem k_notInP (K : PySem.W.Frag) (hK : X.K = K := by rfl) : OpR X (compareOp .NotIn) (rInP K true) := hK ▸ op_notInP
theorem k_ix (K : PySem.W.Frag) (hK : X.K = K := by rfl) : IxR X (rIx K) := hK ▸ ix_seq
theorem k_sl (K : PySem.W.Frag) (hK : X.K = K := by rfl) : SlR X (rSlP K) := hK ▸ sl_any
theorem k_len (K : PySem.W.Frag) (hK : X.K = K := by rfl) : CallR X (.builtin "len") (cLen K) := hK ▸ call_lenP
theorem k_isi (K : PySem.W.Frag) (hK : X.K = K := by rfl) : CallR X (.builtin "isinstance") (rIsi K) := hK ▸ call_isi
theorem k_isiT (K : PySem.W.Frag) (hK : X.K = K := by rfl) : CallR X (.builtin "isinstance") (rIsiT K) := hK ▸ call_isiT
theorem k_all (K : PySem.W.Frag) (hc : X.calm = true) (hK : X.K = K := by rfl) : CallR X (.builtin "all") (rAll K) := hK ▸ cr_all hc
theorem k_any (K : PySem.W.Frag) (hc : X.calm = true) (hK : X.K = K := by rfl) : CallR X (.builtin "any") (rAny K) := hK ▸ cr_any hc
theorem k_list (K : PySem.W.Frag) (hK : X.K = K := by rfl) : CallR X (.type "list") (cList K) := hK ▸ call_listP
theorem k_join (K : PySem.W.Frag) (hK : X.K = K := by rfl) : MtR X "str.join" (mJoin K) := hK ▸ mt_join
variable {o e : Expr} {es : List Expr} {to te : TE} {t : TA} {name : Str} {id : String} {T : String} {apos cpos pos : Pos}
theorem k_bm0 (K : PySem.W.Frag) {r : V → List V → Hp → VK → Prop} (pa : PlainAttrs T) (slot : Slot T name id) (hty : typeOf (.builtin id) = pure (.type "method_descriptor")) (hm : MtR X id r) (ho : PE X o to)
    (hbase : attributeBase o name X.env (eval o X.env) = eval o X.env := by rfl) (hline : (apos.endLine == cpos.line) = true := by rfl) (hK : X.K = K := by rfl) : PE X (.Call (.Attribute o name apos) [] [] cpos) (tBM0 K T r to) := hK ▸ pe_bm0 pa slot hty hm ho hbase hline
theorem k_bm (K : PySem.W.Frag) {r : V → List V → Hp → VK → Prop} (pa : PlainAttrs T) (slot : Slot T name id) (hty : typeOf (.builtin id) = pure (.type "method_descriptor")) (hm : MtR X id r) (ho : PE X o to) (ha : PA X (e :: es) t)
    (hbase : attributeBase o name X.env (eval o X.env) = eval o X.env := by rfl)
    (hfew : ((backTo cpos (starEach (e :: es) X.env)).all (fun x => !x.1) && (backToKw cpos (keywordEach [] X.env)).all (fun x => x.1.isSome)
      && decide ((e :: es).length + ([] : List Keyword).length + (if ([] : List Keyword).isEmpty then 0 else 1) < 30)) = true := by rfl)
    (hline : (apos.endLine == cpos.line) = true := by rfl) (hs : starEach (e :: es) X.env = (false, eval e X.env) :: starEach es X.env := by rfl) (hplain : (backTo cpos (starEach es X.env)).any (·.1) = false := by rfl) (hK : X.K = K := by rfl) :
    PE X (.Call (.Attribute o name apos) (e :: es) [] cpos) (tBM K T r to t) := hK ▸ pe_bm pa slot hty hm ho ha hbase hfew hline hs hplain
theorem k_tup (K : PySem.W.Frag) {es : List Expr} {k : Nat} {t : TGs} {n : Nat} (hc : X.calm = true) (h : PGs X es t)
    (hn : (assignEach es X.env).length = n := by rfl) (hst : (assignEach es X.env).findIdx? (·.1) = none := by rfl) (hK : X.K = K := by rfl) : PG X (.Tuple es k pos) (gTup K n t) := hK ▸ pg_tup hc h hn hst
theorem k_iL (K : PySem.W.Frag) {tg l : Expr} {tl : TE} (hl : PE X l tl) (hK : X.K = K := by rfl) : PI X tg l (iList K tl) := hK ▸ pi_list hl
theorem k_iT (K : PySem.W.Frag) {tg l : Expr} {tl : TE} (hl : PE X l tl) (hK : X.K = K := by rfl) : PI X tg l (iTup K tl) := hK ▸ pi_tup hl
theorem k_iE (K : PySem.W.Frag) {ta : TA} {p pos tpos : Pos} {elts : List Expr} {kk : Nat} (hg : Gl X "enumerate") (hm : X.mg "enumerate" = none) (ha : PA X [e] ta) (hs : starEach [e] X.env = [(false, eval e X.env)] := by rfl) (hK : X.K = K := by rfl) :
    PI X (.Tuple elts kk tpos) (.Call (.Name "enumerate" p) [e] [] pos) (iEnum K ta) := hK ▸ pi_enum hg hm ha hs
theorem k_iZ (K : PySem.W.Frag) {e2 : Expr} {ta : TA} {p pos tpos : Pos} {elts : List Expr} {kk : Nat} (hg : Gl X "zip") (hm : X.mg "zip" = none) (ha : PA X [e, e2] ta)
    (hs : starEach [e, e2] X.env = (false, eval e X.env) :: starEach [e2] X.env := by rfl) (hpl : (backTo pos (starEach [e2] X.env)).any (·.1) = false := by rfl) (hK : X.K = K := by rfl) :
    PI X (.Tuple elts kk tpos) (.Call (.Name "zip" p) [e, e2] [] pos) (iZip K ta) := hK ▸ pi_zip hg hm ha hs hpl
end

/-! ### heaps -/
theorem Same.new {H : Hp} {p : Addr} {o : HO} (h : H p = none) : Same H (upd H p o) := fun b x e => by
  rw [upd_ne (ne_of_none e h)]
  exact e
/-- all but l stays -/
def But (l : Addr) (H H' : Hp) : Prop := ∀ b o, b ≠ l → H b = some o → H' b = some o
theorem But.upd {H : Hp} {l : Addr} {o : HO} : But l H (upd H l o) := fun b x n e => by
  rw [upd_ne n]
  exact e
theorem up {H H' : Hp} {a : Addr} {o : HO} (e : Same H H') (h : H a = some o) : H' a = some o := e a o h
theorem upB {H H' : Hp} {l a : Addr} {o : HO} (e : But l H H') (n : a ≠ l) (h : H a = some o) : H' a = some o := e a o n h
theorem upL {K : PySem.W.Frag} {H H' : Hp} {a : Addr} {xs : List V} (e : Same H H') (h : SqL K H a xs) : SqL K H' a xs := e.seq h
theorem upLB {K : PySem.W.Frag} {H H' : Hp} {l a : Addr} {xs : List V} (e : But l H H') (n : a ≠ l) (h : SqL K H a xs) : SqL K H' a xs := by
  rcases h with (h | ⟨o, h⟩) | h
  · exact .inl (.inl (e _ _ n h))
  · exact .inl (.inr ⟨o, e _ _ n h⟩)
  · exact .inr h
theorem upT {K : PySem.W.Frag} {H H' : Hp} {a : Addr} {xs : List V} (e : Same H H') (h : SqT K H a xs) : SqT K H' a xs := by
  rcases h with (h | ⟨o, h⟩) | h
  · exact .inl (.inl (e _ _ h))
  · exact .inl (.inr ⟨o, e _ _ h⟩)
  · exact .inr h
theorem upTB {K : PySem.W.Frag} {H H' : Hp} {l a : Addr} {xs : List V} (e : But l H H') (n : a ≠ l) (h : SqT K H a xs) : SqT K H' a xs := by
  rcases h with (h | ⟨o, h⟩) | h
  · exact .inl (.inl (e _ _ n h))
  · exact .inl (.inr ⟨o, e _ _ n h⟩)
  · exact .inr h
theorem sqL {K : PySem.W.Frag} {H : Hp} {a : Addr} {xs : List V} (h : H a = some (.lst xs)) : SqL K H a xs := .inl (.inl h)
theorem sqT {K : PySem.W.Frag} {H : Hp} {a : Addr} {xs : List V} (h : H a = some (.tup xs)) : SqT K H a xs := .inl (.inl h)
theorem Same.tr {A m B : Hp} (h2 : Same m B) (h1 : Same A m) : Same A B := h1.trans h2
/-- a new object changed: the elder heap stays -/
theorem Same.but {A m B : Hp} {l : Addr} (b : But l m B) (n : A l = none) (h1 : Same A m) : Same A B := fun a o e => b a o (ne_of_none e n) (h1 a o e)
theorem But.tr {A m B : Hp} {l : Addr} (h2 : Same m B) (h1 : But l A m) : But l A B := fun a o n e => h2 a o (h1 a o n e)
theorem But.of {A B : Hp} {l : Addr} (h : Same A B) : But l A B := fun a o _ e => h a o e
theorem But.but {A m B : Hp} {l : Addr} (h2 : But l m B) (h1 : But l A m) : But l A B := fun a o n e => h2 a o n (h1 a o n e)
theorem But.but2 {A m B : Hp} {l k : Addr} (h2 : But k m B) (n : A k = none) (h1 : But l A m) : But l A B := fun a o ne e => h2 a o (ne_of_none e n) (h1 a o ne e)
theorem fr {A B : Hp} {p : Addr} (h : B p = none) (e : Same A B) : A p = none := e.free h
theorem frB {A B : Hp} {l p : Addr} (h : B p = none) (n : p ≠ l) (e : But l A B) : A p = none := by
  cases q : A p with
  | none => rfl
  | some o =>
    rw [e p o n q] at h
    cases h
theorem ne1 {H : Hp} {a l : Addr} {o : HO} (h : H l = none) (h2 : H a = some o) : a ≠ l := ne_of_none h2 h

theorem szl {n : Nat} (h : n ≤ 16777216) : n ≤ sizeLine := by rw [sizeLine_eq]; exact h
theorem szlt {n : Nat} (h : n < 16777216) : n < sizeLine := by rw [sizeLine_eq]; exact h
theorem len_empty : Str.empty.length = 0 := rfl
theorem len_app (a b : Str) : (a ++ b).length = a.length + b.length := Str.length_append a b
/-! ### data -/
mutual
theorem dpUp {K : PySem.W.Frag} {H H' : Hp} (e : Same H H') : ∀ {v : V} {d : PyData}, Dp K H v d → Dp K H' v d
  | _, _, .non => .non
  | _, _, .bl b => .bl b
  | _, _, .int i => .int i
  | _, _, .str x => .str x
  | _, _, .lst h r => .lst (upL e h) (dpsUp e r)
  | _, _, .tup h r => .tup (upT e h) (dpsUp e r)
theorem dpsUp {K : PySem.W.Frag} {H H' : Hp} (e : Same H H') : ∀ {vs : List V} {ds : List PyData}, DpAll K H vs ds → DpAll K H' vs ds
  | _, _, .nil => .nil
  | _, _, .cons h r => .cons (dpUp e h) (dpsUp e r)
end

/-! ### readings, one step -/
section
variable {K : PySem.W.Frag} {σ : L2.St} {H : Hp} {Q : VK} {QB : Bool → Hp → Prop} {QA : List V → Hp → Prop} {ta tb tc te : TE} {tA tB' : TT} {tr : TA} {r r' : R2} {v : V} {i j : Int} {D : Ends} {t u : TS} {g : TG} {b : Bool}
theorem r_var {n : Nat} (h : σ[n]? = some (some v)) (q : Q v H) : tVar n σ H Q := ⟨v, h, q⟩
theorem r_c (q : Q v H) : tC v σ H Q := q
theorem r_op (q : ta σ H fun x H1 => tb σ H1 fun y H2 => r x y H2 Q) : tOp r ta tb σ H Q := q
theorem r_un {ru : V → Hp → VK → Prop} (q : ta σ H fun x H1 => ru x H1 Q) : tUn ru ta σ H Q := q
theorem r_I0 {f : Int → Int → V} (q : Q (f i j) H) : rI0 f (.int i) (.int j) H Q := ⟨i, j, rfl, rfl, q⟩
theorem r_I {C : Int → Int → Prop} {f : Int → Int → V} (q : Q (f i j) H) (c : C i j) : rI C f (.int i) (.int j) H Q := ⟨i, j, rfl, rfl, c, q⟩
theorem r_U {f : Int → V} (q : Q (f i) H) : rU f (.int i) H Q := ⟨i, rfl, q⟩
theorem r_addI (q : Q (.int (i + j)) H) : rAddP K (.int i) (.int j) H Q := .inl ⟨i, j, rfl, rfl, q⟩
theorem r_addS {x y : Str} (q : Q (.str (x ++ y)) H) (h : x.length + y.length ≤ sizeLine) : rAddP K (.str x) (.str y) H Q := .inr (.inl ⟨x, y, rfl, rfl, h, q⟩)
theorem r_addL {l m : Addr} {xs ys : List V} (h1 : H l = some (.lst xs)) (h2 : H m = some (.lst ys)) (q : ∀ p H', H p = none → Same H H' → H' p = some (.lst (xs ++ ys)) → Q (.ref p) H') (h : xs.length + ys.length ≤ sizeLine) : rAddP K (.ref l) (.ref m) H Q :=
  .inr (.inr (.inl ⟨l, m, xs, ys, rfl, rfl, h1, h2, h, fun p hp => q p _ hp (Same.new hp) upd_same⟩))
theorem r_mulI (q : Q (.int (i * j)) H) (c : CMulP i j) : rMulP (.int i) (.int j) H Q := .inl ⟨i, j, rfl, rfl, c, q⟩
theorem r_sub (q : Q (.int (i - j)) H) : rSub (.int i) (.int j) H Q := ⟨i, j, rfl, rfl, q⟩
theorem r_mod (q : Q (.int (i % j)) H) (c : 0 < j) : rMod (.int i) (.int j) H Q := ⟨i, j, rfl, rfl, c, q⟩
theorem r_div (q : Q (.int (i / j)) H) (c : CDivP i j) : rDiv (.int i) (.int j) H Q := ⟨i, j, rfl, rfl, c, q⟩
theorem r_pow (q : Q (.int (i ^ j.toNat)) H) (c : CPow i j) : rPow (.int i) (.int j) H Q := ⟨i, j, rfl, rfl, c, q⟩
theorem p10_6 (q : Q (.int 1000000) H) : rPow (.int 10) (.int 6) H Q := ⟨10, 6, rfl, rfl, by unfold CPow; decide, q⟩
theorem p10_8 (q : Q (.int 100000000) H) : rPow (.int 10) (.int 8) H Q := ⟨10, 8, rfl, rfl, by unfold CPow; decide, q⟩
theorem p10_9 (q : Q (.int 1000000000) H) : rPow (.int 10) (.int 9) H Q := ⟨10, 9, rfl, rfl, by unfold CPow; decide, q⟩
theorem p10_18 (q : Q (.int 1000000000000000000) H) : rPow (.int 10) (.int 18) H Q := ⟨10, 18, rfl, rfl, by unfold CPow; decide, q⟩
theorem r_eq {x y : V} (q : Q (.bl (decide (x = y))) H) (h : scal x y = true) : rEqP K x y H Q := .inl ⟨h, q⟩
theorem r_ne {x y : V} (q : Q (.bl (!decide (x = y))) H) (h : scal x y = true) : rNeP K x y H Q := .inl ⟨h, q⟩
theorem r_eqI (q : Q (.bl (decide (i = j))) H) : rEqP K (.int i) (.int j) H Q := .inl ⟨rfl, by
  rw [show decide (V.int i = V.int j) = decide (i = j) by simp]
  exact q⟩
theorem r_neI (q : Q (.bl (!decide (i = j))) H) : rNeP K (.int i) (.int j) H Q := .inl ⟨rfl, by
  rw [show decide (V.int i = V.int j) = decide (i = j) by simp]
  exact q⟩
theorem r_eqS {x y : Str} (q : Q (.bl (decide (x = y))) H) : rEqP K (.str x) (.str y) H Q := .inl ⟨rfl, by
  rw [show decide (V.str x = V.str y) = decide (x = y) by simp]
  exact q⟩
theorem r_neS {x y : Str} (q : Q (.bl (!decide (x = y))) H) : rNeP K (.str x) (.str y) H Q := .inl ⟨rfl, by
  rw [show decide (V.str x = V.str y) = decide (x = y) by simp]
  exact q⟩
theorem r_eqD {x y : V} {d e : PyData} (hd : Dp K H x d) (he : Dp K H y e) (q : Q (.bl (PyData.eqv d e)) H) (h1 : SeqAt.shaped d = true) (h2 : SeqAt.shaped e = true) : rEqP K x y H Q := .inr ⟨d, e, hd, he, h1, h2, q⟩
theorem r_neD {x y : V} {d e : PyData} (hd : Dp K H x d) (he : Dp K H y e) (q : Q (.bl (!PyData.eqv d e)) H) (h1 : SeqAt.shaped d = true) (h2 : SeqAt.shaped e = true) : rNeP K x y H Q := .inr ⟨d, e, hd, he, h1, h2, q⟩
theorem r_lt (q : Q (.bl (decide (i < j))) H) : rLtI (.int i) (.int j) H Q := ⟨i, j, rfl, rfl, q⟩
theorem r_le (q : Q (.bl (decide (i ≤ j))) H) : rLeI (.int i) (.int j) H Q := ⟨i, j, rfl, rfl, q⟩
theorem r_gt (q : Q (.bl (decide (j < i))) H) : rGtI (.int i) (.int j) H Q := ⟨i, j, rfl, rfl, q⟩
theorem r_ge (q : Q (.bl (decide (j ≤ i))) H) : rGeI (.int i) (.int j) H Q := ⟨i, j, rfl, rfl, q⟩
theorem r_isN (q : Q (.bl true) H) : rIs .non .non H Q := ⟨rfl, q⟩
theorem r_isI (q : Q (.bl false) H) : rIs (.int i) .non H Q := ⟨rfl, q⟩
theorem r_isS {x : Str} (q : Q (.bl false) H) : rIs (.str x) .non H Q := ⟨rfl, q⟩
theorem r_isR {x : Addr} (q : Q (.bl false) H) : rIs (.ref x) .non H Q := ⟨rfl, q⟩
theorem r_isB {x : Bool} (q : Q (.bl false) H) : rIs (.bl x) .non H Q := ⟨rfl, q⟩
theorem r_notN (q : Q (.bl false) H) : rIsNot .non .non H Q := ⟨rfl, q⟩
theorem r_notI (q : Q (.bl true) H) : rIsNot (.int i) .non H Q := ⟨rfl, q⟩
theorem r_notS {x : Str} (q : Q (.bl true) H) : rIsNot (.str x) .non H Q := ⟨rfl, q⟩
theorem r_notR {x : Addr} (q : Q (.bl true) H) : rIsNot (.ref x) .non H Q := ⟨rfl, q⟩
theorem r_inT {c : Nat} {z : Str} (q : Q (.bl (decide (c ∈ z.cps.toList))) H) : rInP K false (.str ⟨#[c]⟩) (.str z) H Q := .inl ⟨c, z, rfl, rfl, q⟩
theorem r_notInT {c : Nat} {z : Str} (q : Q (.bl (!decide (c ∈ z.cps.toList))) H) : rInP K true (.str ⟨#[c]⟩) (.str z) H Q := .inl ⟨c, z, rfl, rfl, q⟩
theorem r_inL {x : V} {p : Addr} {xs : List V} (hp : SqL K H p xs) (q : Q (.bl (inV x xs)) H) (fx : flatV x = true) (fs : xs.all flatV = true) : rInP K false x (.ref p) H Q := .inr ⟨p, xs, rfl, .inl hp, fx, fs, q⟩
theorem r_notInL {x : V} {p : Addr} {xs : List V} (hp : SqL K H p xs) (q : Q (.bl (!inV x xs)) H) (fx : flatV x = true) (fs : xs.all flatV = true) : rInP K true x (.ref p) H Q := .inr ⟨p, xs, rfl, .inl hp, fx, fs, q⟩
theorem r_ixL {p : Addr} {xs : List V} (h : SqL K H p xs) (a : atI xs i = some v) (q : Q v H) : rIx K (.ref p) (.int i) H Q := .inl ⟨p, xs, i, v, rfl, rfl, h, a, q⟩
theorem r_ixT {p : Addr} {xs : List V} (h : SqT K H p xs) (a : atI xs i = some v) (q : Q v H) : rIx K (.ref p) (.int i) H Q := .inr (.inl ⟨p, xs, i, v, rfl, rfl, h, a, q⟩)
theorem r_ixS {z : Str} {c : Nat} (h : z.length ≤ sizeLine) (a : atI z.cps.toList i = some c) (q : Q (.str ⟨#[c]⟩) H) : rIx K (.str z) (.int i) H Q := .inr (.inr ⟨z, i, c, rfl, rfl, h, a, q⟩)
/-- slices -/
theorem r_slL {p : Addr} {xs : List V} {lo hi : Option Int} (h : SqL K H p xs) (q : ∀ p H', H p = none → Same H H' → H' p = some (.lst (cutV xs lo hi)) → Q (.ref p) H') : rSlP K (.ref p) lo hi H Q := .inl ⟨p, xs, rfl, h, fun p hp => q p _ hp (Same.new hp) upd_same⟩
theorem r_slS {z : Str} {lo hi : Option Int} (q : Q (.str (cutS z lo hi)) H) (h : z.length ≤ sizeLine) : rSlP K (.str z) lo hi H Q := .inr (.inl ⟨z, rfl, h, q⟩)
theorem r_sl {rs : V → Option Int → Option Int → Hp → VK → Prop} {tl th : TO} (q : te σ H fun x H1 => tl σ H1 fun l H2 => th σ H2 fun u H3 => rs x l u H3 Q) : tSl rs te tl th σ H Q := q
theorem r_part {QO : Option Int → Hp → Prop} (q : te σ H fun x H1 => ∃ i, x = .int i ∧ QO (some i) H1) : tPart te σ H QO := q
theorem r_exI {QO : Int → Prop} (q : QO i) : ∃ k, V.int i = .int k ∧ QO k := ⟨i, rfl, q⟩
theorem r_noPart {QO : Option Int → Hp → Prop} (q : QO none H) : tNoPart σ H QO := q
/-- displays -/
def NewT (xs : List V) (H : Hp) (Q : VK) : Prop := xs.length ≤ sizeLine ∧ ∀ p, H p = none → Q (.ref p) (upd H p (.tup xs))
def NewL (xs : List V) (H : Hp) (Q : VK) : Prop := xs.length ≤ sizeLine ∧ ∀ p, H p = none → Q (.ref p) (upd H p (.lst xs))
theorem r_tup (q : tr σ H fun xs H1 => NewT xs H1 Q) : tTup tr σ H Q := q
theorem r_lst (q : tr σ H fun xs H1 => NewL xs H1 Q) : tLst tr σ H Q := q
theorem r_newT {xs : List V} (q : ∀ p H', H p = none → Same H H' → H' p = some (.tup xs) → Q (.ref p) H') (h : xs.length ≤ sizeLine) : NewT xs H Q := ⟨h, fun p hp => q p _ hp (Same.new hp) upd_same⟩
theorem r_newL {xs : List V} (q : ∀ p H', H p = none → Same H H' → H' p = some (.lst xs) → Q (.ref p) H') (h : xs.length ≤ sizeLine) : NewL xs H Q := ⟨h, fun p hp => q p _ hp (Same.new hp) upd_same⟩
theorem r_new {xs : List V} (q : ∀ p H', H p = none → Same H H' → H' p = some (.lst xs) → Q (.ref p) H') : ∀ p, H p = none → Q (.ref p) (upd H p (.lst xs)) := fun p hp => q p _ hp (Same.new hp) upd_same
theorem r_nil (q : QA [] H) : tNil σ H QA := q
theorem r_cons (q : ta σ H fun x H1 => tr σ H1 fun xs H2 => QA (x :: xs) H2) : tCons ta tr σ H QA := q
theorem r_CB {rc : List V → Hp → VK → Prop} (q : tr σ H fun vs H1 => rc vs H1 Q) : tCB rc tr σ H Q := q
theorem r_call {sp : Sp} {dvs : List V} {E : XK} (q : tr σ H fun vs H1 => sp (vs ++ dvs) H1 Q E) : tCall sp dvs E tr σ H Q := q
theorem r_BM {T : String} {rm : V → List V → Hp → VK → Prop} (q : te σ H fun x H1 => tyV K T x H1 ∧ tr σ H1 fun xs H2 => rm x xs H2 Q) : tBM K T rm te tr σ H Q := q
theorem r_BM0 {T : String} {rm : V → List V → Hp → VK → Prop} (q : te σ H fun x H1 => tyV K T x H1 ∧ rm x [] H1 Q) : tBM0 K T rm te σ H Q := q
theorem r_abs (q : Q (.int (i.natAbs : Nat)) H) : cAbs [.int i] H Q := ⟨i, rfl, by
  rw [show (if i < 0 then -i else i) = ((i.natAbs : Nat) : Int) by split <;> omega]
  exact q⟩
theorem r_max (q : Q (.int (if j > i then j else i)) H) : cMax [.int i, .int j] H Q := ⟨i, j, rfl, q⟩
theorem r_min (q : Q (.int (if j < i then j else i)) H) : cMin [.int i, .int j] H Q := ⟨i, j, rfl, q⟩
theorem r_lenL {p : Addr} {xs : List V} (h : SqL K H p xs) (q : Q (.int (xs.length : Nat)) H) : cLen K [.ref p] H Q := ⟨_, _, rfl, .inl ⟨xs, h, rfl⟩, q⟩
theorem r_lenT {p : Addr} {xs : List V} (h : SqT K H p xs) (q : Q (.int (xs.length : Nat)) H) : cLen K [.ref p] H Q := ⟨_, _, rfl, .inr ⟨xs, h, rfl⟩, q⟩
theorem r_lenS {z : Str} (q : Q (.int (z.length : Nat)) H) (h : z.length ≤ sizeLine) : cLen K [.str z] H Q := ⟨_, _, rfl, ⟨h, rfl⟩, q⟩
theorem r_strI (q : Q (.str (toString i)) H) (h : i.natAbs.log2 < 1920) : cStr [.int i] H Q := ⟨i, rfl, h, q⟩
theorem r_intS {z : Str} {n : Int} (h : PySem.intText? z = some n) (q : Q (.int n) H) (hl : z.length ≤ 640) : cInt [.str z] H Q := ⟨z, n, rfl, h, hl, q⟩
theorem r_listL {p : Addr} {xs : List V} (h : SqL K H p xs) (q : ∀ p H', H p = none → Same H H' → H' p = some (.lst xs) → Q (.ref p) H') : cList K [.ref p] H Q := ⟨p, xs, rfl, .inl h, fun p hp => q p _ hp (Same.new hp) upd_same⟩
theorem r_listT {p : Addr} {xs : List V} (h : SqT K H p xs) (q : ∀ p H', H p = none → Same H H' → H' p = some (.lst xs) → Q (.ref p) H') : cList K [.ref p] H Q := ⟨p, xs, rfl, .inr h, fun p hp => q p _ hp (Same.new hp) upd_same⟩
theorem r_all {p : Addr} {bs : List Bool} (h : SqL K H p (bs.map V.bl)) (q : Q (.bl (bs.all id)) H) : rAll K [.ref p] H Q := ⟨p, bs, rfl, h, q⟩
theorem r_any {p : Addr} {bs : List Bool} (h : SqL K H p (bs.map V.bl)) (q : Q (.bl (bs.any id)) H) : rAny K [.ref p] H Q := ⟨p, bs, rfl, h, q⟩
/-- isinstance(x, T), T built-in -/
theorem r_isi {x : V} {a c : String} {k : Bool} (ty : TyX K H x (.type a)) (q : Q (.bl k) H) (h : kitB a c = some k) : rIsi K [x, .ty c] H Q := ⟨x, .ty c, .type a, .type c, k, rfl, .ty c, ty, kit_ty h, q⟩
theorem ty_int : TyX K H (.int i) (.type "int") := .base (.int i)
theorem ty_bl : TyX K H (.bl b) (.type "bool") := .base (.bl b)
theorem ty_str {x : Str} : TyX K H (.str x) (.type "str") := .base (.str x)
theorem ty_non : TyX K H .non (.type "NoneType") := .base .non
theorem r_isiHd {x : V} {c : String} (q : rIsi K [x, .ty c] H Q) : rIsi K [x, .ty c] H Q := q
theorem ty_lst {p : Addr} {xs : List V} (h : H p = some (.lst xs)) : TyX K H (.ref p) (.type "list") := .base (.lst h)
theorem ty_tup {p : Addr} {xs : List V} (h : H p = some (.tup xs)) : TyX K H (.ref p) (.type "tuple") := .base (.tup h)
/-- methods -/
theorem r_append {l : Addr} {xs : List V} (h : H l = some (.lst xs)) (q : ∀ H', But l H H' → H' l = some (.lst (xs ++ [v])) → Q .non H') (hz : xs.length < sizeLine) : tyV K "list" (.ref l) H ∧ rAppend (.ref l) [v] H Q :=
  ⟨.inl ⟨rfl, _, .inl (.inl h)⟩, l, xs, v, rfl, rfl, h, hz, q _ But.upd upd_same⟩
theorem r_tyL {l : Addr} {xs : List V} (h : H l = some (.lst xs)) {A : Prop} (q : A) : tyV K "list" (.ref l) H ∧ A := ⟨.inl ⟨rfl, _, .inl (.inl h)⟩, q⟩
theorem r_appendQ {l : Addr} {xs : List V} (h : H l = some (.lst xs)) (q : ∀ H', But l H H' → H' l = some (.lst (xs ++ [v])) → Q .non H') (hz : xs.length < sizeLine) : rAppend (.ref l) [v] H Q :=
  ⟨l, xs, v, rfl, rfl, h, hz, q _ But.upd upd_same⟩
theorem r_tyS {x : Str} {A : Prop} (q : A) : tyV K "str" (.str x) H ∧ A := ⟨rfl, q⟩
theorem r_split {x y : Str} (q : ∀ p H', H p = none → Same H H' → H' p = some (.lst ((Txt.split x y).map V.str)) → Q (.ref p) H') (h : (y.length == 0) = false) (hz : x.length + 2 ≤ sizeLine) : mSplit (.str x) [.str y] H Q :=
  ⟨x, y, rfl, rfl, h, hz, fun p hp => q p _ hp (Same.new hp) upd_same⟩
/-- o[i] = v, o a list -/
theorem r_subTg {to ti : TE} {tset : TSet} {QS : L2.St → Hp → Prop} (q : to σ H fun o H1 => ti σ H1 fun k H2 => tset o k v H2 fun H3 => QS σ H3) : gSub to ti tset v σ H QS := q
theorem r_setL {l : Addr} {xs : List V} {n : Nat} {QH : Hp → Prop} (h : H l = some (.lst xs)) (hi : ixN xs.length i = some n) (q : ∀ H', But l H H' → H' l = some (.lst (xs.set n v)) → QH H') : rSetL (.ref l) (.int i) v H QH :=
  ⟨l, xs, i, n, rfl, rfl, h, hi, q _ But.upd upd_same⟩
/-- f-strings -/
def rFmt : V → Hp → VK → Prop := fun x H Q => (∃ y : Str, x = .str y ∧ y.length ≤ sizeLine ∧ Q (.str y) H) ∨ ∃ i : Int, x = .int i ∧ i.natAbs.log2 < 1920 ∧ Q (.str (toString i)) H
theorem r_fmtI (q : Q (.str (toString i)) H) (h : i.natAbs.log2 < 1920) : rFmt (.int i) H Q := .inr ⟨i, rfl, h, q⟩
theorem r_fmtS {x : Str} (q : Q (.str x) H) (h : x.length ≤ sizeLine) : rFmt (.str x) H Q := .inl ⟨x, rfl, h, q⟩
theorem r_fmt (q : te σ H fun x H1 => rFmt x H1 Q) : tFmt te σ H Q := q
theorem r_joined {ts : List TE} {acc : Str} (q : tJs ts acc σ H fun out H1 => Q (.str out) H1) : (fun σ H Q => tJs ts acc σ H fun out H1 => Q (.str out) H1) σ H Q := q
theorem r_js0 {acc : Str} {QS : Str → Hp → Prop} (q : QS acc H) : tJs [] acc σ H QS := q
theorem r_js {ts : List TE} {acc : Str} {QS : Str → Hp → Prop} (q : te σ H fun x H1 => ∃ y : Str, x = .str y ∧ (acc ++ y).length ≤ sizeLine ∧ tJs ts (acc ++ y) σ H1 QS) : tJs (te :: ts) acc σ H QS := q
theorem r_jsS {ts : List TE} {acc x : Str} {QS : Str → Hp → Prop} (q : tJs ts (acc ++ x) σ H QS) (h : (acc ++ x).length ≤ sizeLine) : ∃ y : Str, V.str x = .str y ∧ (acc ++ y).length ≤ sizeLine ∧ tJs ts (acc ++ y) σ H QS := ⟨x, rfl, h, q⟩
/-- tests -/
theorem r_test (q : te σ H fun x H' => ∃ k, x = .bl k ∧ QB k H') : tTest te σ H QB := q
theorem r_tB (q : te σ H fun x H' => ∃ k, x = .bl k ∧ QB k H') : tB te σ H QB := q
theorem r_exB {QQ : Bool → Prop} (q : QQ b) : ∃ k, V.bl b = .bl k ∧ QQ k := ⟨b, rfl, q⟩
theorem r_and (q : tA σ H fun c H1 => if c = true then tB' σ H1 QB else QB false H1) : tAnd tA tB' σ H QB := q
theorem r_or (q : tA σ H fun c H1 => if c = true then QB true H1 else tB' σ H1 QB) : tOr tA tB' σ H QB := q
theorem r_not (q : tA σ H fun c H1 => QB (!c) H1) : tNot tA σ H QB := q
theorem r_andV (q : ta σ H fun x H1 => ∃ c, x = .bl c ∧ if c = true then tb σ H1 Q else Q (.bl false) H1) : tAndV ta tb σ H Q := q
theorem r_orV (q : ta σ H fun x H1 => ∃ c, x = .bl c ∧ if c = true then Q (.bl true) H1 else tb σ H1 Q) : tOrV ta tb σ H Q := q
theorem r_notV (q : ta σ H fun x H1 => ∃ c, x = .bl c ∧ Q (.bl (!c)) H1) : tNotV ta σ H Q := q
theorem r_chain (q : ta σ H fun x H1 => tb σ H1 fun y H2 => r x y H2 fun z H3 => ∃ k, z = .bl k ∧ (if k = true then tc σ H3 fun w' H4 => r' y w' H4 Q else Q (.bl false) H3)) : tChain r r' ta tb tc σ H Q := q
theorem r_ifE (q : tA σ H fun c H1 => if c = true then ta σ H1 Q else tb σ H1 Q) : tIf tA ta tb σ H Q := q
/-- known outcomes -/
theorem r_T {A B : Prop} (h : A) : if true = true then A else B := by rw [if_pos rfl]; exact h
theorem r_F {A B : Prop} (h : B) : if false = true then A else B := by rw [if_neg Bool.false_ne_true]; exact h
theorem r_nT {A B : Prop} (h : B) : if (!true) = true then A else B := r_F h
theorem r_nF {A B : Prop} (h : A) : if (!false) = true then A else B := r_T h
theorem r_dT {p : Prop} [Decidable p] {A B : Prop} (hp : p) (h : A) : if decide p = true then A else B := by rw [decide_eq_true hp]; exact r_T h
theorem r_dF {p : Prop} [Decidable p] {A B : Prop} (hp : ¬ p) (h : B) : if decide p = true then A else B := by rw [decide_eq_false hp]; exact r_F h
theorem r_ndT {p : Prop} [Decidable p] {A B : Prop} (hp : p) (h : B) : if (!decide p) = true then A else B := by rw [decide_eq_true hp]; exact r_F h
theorem r_ndF {p : Prop} [Decidable p] {A B : Prop} (hp : ¬ p) (h : A) : if (!decide p) = true then A else B := by rw [decide_eq_false hp]; exact r_T h
theorem r_bT {c : Bool} {A B : Prop} (hc : c = true) (h : A) : if c = true then A else B := by rw [hc]; exact r_T h
theorem r_bF {c : Bool} {A B : Prop} (hc : c = false) (h : B) : if c = true then A else B := by rw [hc]; exact r_F h
theorem r_ite {p : Prop} [Decidable p] {A B : Prop} (h1 : p → A) (h2 : ¬ p → B) : if decide p = true then A else B := by
  by_cases h : p
  · exact r_dT h (h1 h)
  · exact r_dF h (h2 h)
theorem r_nite {p : Prop} [Decidable p] {A B : Prop} (h1 : ¬ p → A) (h2 : p → B) : if (!decide p) = true then A else B := by
  by_cases h : p
  · exact r_ndT h (h2 h)
  · exact r_ndF h (h1 h)
theorem r_bite {c : Bool} {A B : Prop} (h1 : c = true → A) (h2 : c = false → B) : if c = true then A else B := by
  cases c with
  | true => exact r_T (h1 rfl)
  | false => exact r_F (h2 rfl)
/-- statements -/
theorem r_seq (q : t { D with nx := u D } σ H) : tSeq t u D σ H := q
theorem r_cut (Mid : L2.St → Hp → Prop) (h1 : t { D with nx := Mid } σ H) (h2 : ∀ σ' H', Mid σ' H' → u D σ' H') : Evl.tCut t u D σ H := ⟨Mid, h1, h2⟩
theorem r_next (q : D.nx σ H) : tNext D σ H := q
theorem r_asg (q : te σ H fun x H1 => g x σ H1 D.nx) : tAsg te g D σ H := q
theorem r_par {m n : Nat} {tr : TA} (q : tr σ H fun vs H1 => ∃ v w, vs = [v, w] ∧ D.nx ((σ.set m (some v)).set n (some w)) H1) : tPar m n tr D σ H := q
theorem r_par2 {m n : Nat} {x y : V} (q : (gName m x σ H fun σ' H' => gName n y σ' H' D.nx)) : ∃ v w, [x, y] = [v, w] ∧ D.nx ((σ.set m (some v)).set n (some w)) H := ⟨x, y, rfl, q⟩
theorem r_drop (q : te σ H fun _ H1 => D.nx σ H1) : tDrop te D σ H := q
theorem r_ret (q : te σ H D.rt) : tRet te D σ H := q
theorem r_retN (q : D.rt .non H) : tRetN D σ H := q
theorem r_ifS (q : tA σ H fun b H1 => if b = true then t D σ H1 else u D σ H1) : tIfS tA t u D σ H := q
theorem r_brk (q : D.bk σ H) : tBreak D σ H := q
theorem r_cnt (q : D.ct σ H) : tCont D σ H := q
theorem r_tg {n : Nat} {ts : TGs} {a : Addr} {xs : List V} {QS : L2.St → Hp → Prop} (h : SqT K H a xs) (q : ts xs σ H QS) (hl : xs.length = n) : gTup K n ts (.ref a) σ H QS := ⟨a, xs, rfl, h, hl, q⟩
theorem r_gnil {QS : L2.St → Hp → Prop} (q : QS σ H) : gNil [] σ H QS := ⟨rfl, q⟩
theorem r_gcons {ts : TGs} {x : V} {xs : List V} {QS : L2.St → Hp → Prop} (q : g x σ H fun σ' H' => ts xs σ' H' QS) : gCons g ts (x :: xs) σ H QS := ⟨x, xs, rfl, q⟩
theorem r_aug {n : Nat} {f : Int → Int → Int} (h : σ[n]? = some (some (.int i))) (q : te σ H fun y H1 => ∃ k, y = .int k ∧ gName n (.int (f i k)) σ H1 D.nx) : tAug n te (ipI f) D σ H := by
  refine ⟨_, h, ?_⟩
  have e : (fun y H1 => ∃ k, y = V.int k ∧ gName n (.int (f i k)) σ H1 D.nx) = fun y H1 => ipI f (.int i) y H1 fun z H2 => D.nx (σ.set n (some z)) H2 := by
    funext y H1
    apply propext
    constructor
    · rintro ⟨k, rfl, h⟩
      exact ⟨i, k, rfl, rfl, h⟩
    · rintro ⟨a, k, e, rfl, h⟩
      cases e
      exact ⟨k, rfl, h⟩
  rw [← e]
  exact q
end
/-! names stored, by place -/
section
variable {H : Hp} {v : V} {QS : L2.St → Hp → Prop} {r : L2.St} {a0 a1 a2 a3 a4 a5 a6 a7 a8 a9 b0 b1 b2 b3 b4 b5 b6 b7 b8 b9 : Option V}
theorem v0 {w : V} {QV : VK} (q : QV w H) : tVar 0 (some w :: r) H QV := ⟨w, rfl, q⟩
theorem v1 {w : V} {QV : VK} (q : QV w H) : tVar 1 (a0 :: some w :: r) H QV := ⟨w, rfl, q⟩
theorem v2 {w : V} {QV : VK} (q : QV w H) : tVar 2 (a0 :: a1 :: some w :: r) H QV := ⟨w, rfl, q⟩
theorem v3 {w : V} {QV : VK} (q : QV w H) : tVar 3 (a0 :: a1 :: a2 :: some w :: r) H QV := ⟨w, rfl, q⟩
theorem v4 {w : V} {QV : VK} (q : QV w H) : tVar 4 (a0 :: a1 :: a2 :: a3 :: some w :: r) H QV := ⟨w, rfl, q⟩
theorem v5 {w : V} {QV : VK} (q : QV w H) : tVar 5 (a0 :: a1 :: a2 :: a3 :: a4 :: some w :: r) H QV := ⟨w, rfl, q⟩
theorem v6 {w : V} {QV : VK} (q : QV w H) : tVar 6 (a0 :: a1 :: a2 :: a3 :: a4 :: a5 :: some w :: r) H QV := ⟨w, rfl, q⟩
theorem v7 {w : V} {QV : VK} (q : QV w H) : tVar 7 (a0 :: a1 :: a2 :: a3 :: a4 :: a5 :: a6 :: some w :: r) H QV := ⟨w, rfl, q⟩
theorem v8 {w : V} {QV : VK} (q : QV w H) : tVar 8 (a0 :: a1 :: a2 :: a3 :: a4 :: a5 :: a6 :: a7 :: some w :: r) H QV := ⟨w, rfl, q⟩
theorem v9 {w : V} {QV : VK} (q : QV w H) : tVar 9 (a0 :: a1 :: a2 :: a3 :: a4 :: a5 :: a6 :: a7 :: a8 :: some w :: r) H QV := ⟨w, rfl, q⟩
theorem v10 {w : V} {QV : VK} (q : QV w H) : tVar 10 (a0 :: a1 :: a2 :: a3 :: a4 :: a5 :: a6 :: a7 :: a8 :: a9 :: some w :: r) H QV := ⟨w, rfl, q⟩
theorem v11 {w : V} {QV : VK} (q : QV w H) : tVar 11 (a0 :: a1 :: a2 :: a3 :: a4 :: a5 :: a6 :: a7 :: a8 :: a9 :: b0 :: some w :: r) H QV := ⟨w, rfl, q⟩
theorem v12 {w : V} {QV : VK} (q : QV w H) : tVar 12 (a0 :: a1 :: a2 :: a3 :: a4 :: a5 :: a6 :: a7 :: a8 :: a9 :: b0 :: b1 :: some w :: r) H QV := ⟨w, rfl, q⟩
theorem v13 {w : V} {QV : VK} (q : QV w H) : tVar 13 (a0 :: a1 :: a2 :: a3 :: a4 :: a5 :: a6 :: a7 :: a8 :: a9 :: b0 :: b1 :: b2 :: some w :: r) H QV := ⟨w, rfl, q⟩
theorem v14 {w : V} {QV : VK} (q : QV w H) : tVar 14 (a0 :: a1 :: a2 :: a3 :: a4 :: a5 :: a6 :: a7 :: a8 :: a9 :: b0 :: b1 :: b2 :: b3 :: some w :: r) H QV := ⟨w, rfl, q⟩
theorem n0 (q : QS (some v :: r) H) : gName 0 v (a0 :: r) H QS := q
theorem n1 (q : QS (a0 :: some v :: r) H) : gName 1 v (a0 :: a1 :: r) H QS := q
theorem n2 (q : QS (a0 :: a1 :: some v :: r) H) : gName 2 v (a0 :: a1 :: a2 :: r) H QS := q
theorem n3 (q : QS (a0 :: a1 :: a2 :: some v :: r) H) : gName 3 v (a0 :: a1 :: a2 :: a3 :: r) H QS := q
theorem n4 (q : QS (a0 :: a1 :: a2 :: a3 :: some v :: r) H) : gName 4 v (a0 :: a1 :: a2 :: a3 :: a4 :: r) H QS := q
theorem n5 (q : QS (a0 :: a1 :: a2 :: a3 :: a4 :: some v :: r) H) : gName 5 v (a0 :: a1 :: a2 :: a3 :: a4 :: a5 :: r) H QS := q
theorem n6 (q : QS (a0 :: a1 :: a2 :: a3 :: a4 :: a5 :: some v :: r) H) : gName 6 v (a0 :: a1 :: a2 :: a3 :: a4 :: a5 :: a6 :: r) H QS := q
theorem n7 (q : QS (a0 :: a1 :: a2 :: a3 :: a4 :: a5 :: a6 :: some v :: r) H) : gName 7 v (a0 :: a1 :: a2 :: a3 :: a4 :: a5 :: a6 :: a7 :: r) H QS := q
theorem n8 (q : QS (a0 :: a1 :: a2 :: a3 :: a4 :: a5 :: a6 :: a7 :: some v :: r) H) : gName 8 v (a0 :: a1 :: a2 :: a3 :: a4 :: a5 :: a6 :: a7 :: a8 :: r) H QS := q
theorem n9 (q : QS (a0 :: a1 :: a2 :: a3 :: a4 :: a5 :: a6 :: a7 :: a8 :: some v :: r) H) : gName 9 v (a0 :: a1 :: a2 :: a3 :: a4 :: a5 :: a6 :: a7 :: a8 :: a9 :: r) H QS := q
theorem n10 (q : QS (a0 :: a1 :: a2 :: a3 :: a4 :: a5 :: a6 :: a7 :: a8 :: a9 :: some v :: r) H) : gName 10 v (a0 :: a1 :: a2 :: a3 :: a4 :: a5 :: a6 :: a7 :: a8 :: a9 :: b0 :: r) H QS := q
theorem n11 (q : QS (a0 :: a1 :: a2 :: a3 :: a4 :: a5 :: a6 :: a7 :: a8 :: a9 :: b0 :: some v :: r) H) : gName 11 v (a0 :: a1 :: a2 :: a3 :: a4 :: a5 :: a6 :: a7 :: a8 :: a9 :: b0 :: b1 :: r) H QS := q
theorem n12 (q : QS (a0 :: a1 :: a2 :: a3 :: a4 :: a5 :: a6 :: a7 :: a8 :: a9 :: b0 :: b1 :: some v :: r) H) : gName 12 v (a0 :: a1 :: a2 :: a3 :: a4 :: a5 :: a6 :: a7 :: a8 :: a9 :: b0 :: b1 :: b2 :: r) H QS := q
theorem n13 (q : QS (a0 :: a1 :: a2 :: a3 :: a4 :: a5 :: a6 :: a7 :: a8 :: a9 :: b0 :: b1 :: b2 :: some v :: r) H) : gName 13 v (a0 :: a1 :: a2 :: a3 :: a4 :: a5 :: a6 :: a7 :: a8 :: a9 :: b0 :: b1 :: b2 :: b3 :: r) H QS := q
theorem n14 (q : QS (a0 :: a1 :: a2 :: a3 :: a4 :: a5 :: a6 :: a7 :: a8 :: a9 :: b0 :: b1 :: b2 :: b3 :: some v :: r) H) : gName 14 v (a0 :: a1 :: a2 :: a3 :: a4 :: a5 :: a6 :: a7 :: a8 :: a9 :: b0 :: b1 :: b2 :: b3 :: b4 :: r) H QS := q
end

/-! isinstance -/
theorem q_int_int {i : Int} {K : PySem.W.Frag} {H : Hp} {Q : VK} (q : Q (.bl true) H) : rIsi K [.int i, .ty "int"] H Q := ⟨_, .ty "int", .type "int", .type "int", true, rfl, .ty "int", .base (.int i), kit_ty (by decide +kernel), q⟩
theorem q_int_bool {i : Int} {K : PySem.W.Frag} {H : Hp} {Q : VK} (q : Q (.bl false) H) : rIsi K [.int i, .ty "bool"] H Q := ⟨_, .ty "bool", .type "int", .type "bool", false, rfl, .ty "bool", .base (.int i), kit_ty (by decide +kernel), q⟩
theorem q_int_str {i : Int} {K : PySem.W.Frag} {H : Hp} {Q : VK} (q : Q (.bl false) H) : rIsi K [.int i, .ty "str"] H Q := ⟨_, .ty "str", .type "int", .type "str", false, rfl, .ty "str", .base (.int i), kit_ty (by decide +kernel), q⟩
theorem q_int_list {i : Int} {K : PySem.W.Frag} {H : Hp} {Q : VK} (q : Q (.bl false) H) : rIsi K [.int i, .ty "list"] H Q := ⟨_, .ty "list", .type "int", .type "list", false, rfl, .ty "list", .base (.int i), kit_ty (by decide +kernel), q⟩
theorem q_int_tuple {i : Int} {K : PySem.W.Frag} {H : Hp} {Q : VK} (q : Q (.bl false) H) : rIsi K [.int i, .ty "tuple"] H Q := ⟨_, .ty "tuple", .type "int", .type "tuple", false, rfl, .ty "tuple", .base (.int i), kit_ty (by decide +kernel), q⟩
theorem q_int_dict {i : Int} {K : PySem.W.Frag} {H : Hp} {Q : VK} (q : Q (.bl false) H) : rIsi K [.int i, .ty "dict"] H Q := ⟨_, .ty "dict", .type "int", .type "dict", false, rfl, .ty "dict", .base (.int i), kit_ty (by decide +kernel), q⟩
theorem q_bool_int {b : Bool} {K : PySem.W.Frag} {H : Hp} {Q : VK} (q : Q (.bl true) H) : rIsi K [.bl b, .ty "int"] H Q := ⟨_, .ty "int", .type "bool", .type "int", true, rfl, .ty "int", .base (.bl b), kit_ty (by decide +kernel), q⟩
theorem q_bool_bool {b : Bool} {K : PySem.W.Frag} {H : Hp} {Q : VK} (q : Q (.bl true) H) : rIsi K [.bl b, .ty "bool"] H Q := ⟨_, .ty "bool", .type "bool", .type "bool", true, rfl, .ty "bool", .base (.bl b), kit_ty (by decide +kernel), q⟩
theorem q_bool_str {b : Bool} {K : PySem.W.Frag} {H : Hp} {Q : VK} (q : Q (.bl false) H) : rIsi K [.bl b, .ty "str"] H Q := ⟨_, .ty "str", .type "bool", .type "str", false, rfl, .ty "str", .base (.bl b), kit_ty (by decide +kernel), q⟩
theorem q_bool_list {b : Bool} {K : PySem.W.Frag} {H : Hp} {Q : VK} (q : Q (.bl false) H) : rIsi K [.bl b, .ty "list"] H Q := ⟨_, .ty "list", .type "bool", .type "list", false, rfl, .ty "list", .base (.bl b), kit_ty (by decide +kernel), q⟩
theorem q_bool_tuple {b : Bool} {K : PySem.W.Frag} {H : Hp} {Q : VK} (q : Q (.bl false) H) : rIsi K [.bl b, .ty "tuple"] H Q := ⟨_, .ty "tuple", .type "bool", .type "tuple", false, rfl, .ty "tuple", .base (.bl b), kit_ty (by decide +kernel), q⟩
theorem q_bool_dict {b : Bool} {K : PySem.W.Frag} {H : Hp} {Q : VK} (q : Q (.bl false) H) : rIsi K [.bl b, .ty "dict"] H Q := ⟨_, .ty "dict", .type "bool", .type "dict", false, rfl, .ty "dict", .base (.bl b), kit_ty (by decide +kernel), q⟩
theorem q_str_int {x : Str} {K : PySem.W.Frag} {H : Hp} {Q : VK} (q : Q (.bl false) H) : rIsi K [.str x, .ty "int"] H Q := ⟨_, .ty "int", .type "str", .type "int", false, rfl, .ty "int", .base (.str x), kit_ty (by decide +kernel), q⟩
theorem q_str_bool {x : Str} {K : PySem.W.Frag} {H : Hp} {Q : VK} (q : Q (.bl false) H) : rIsi K [.str x, .ty "bool"] H Q := ⟨_, .ty "bool", .type "str", .type "bool", false, rfl, .ty "bool", .base (.str x), kit_ty (by decide +kernel), q⟩
theorem q_str_str {x : Str} {K : PySem.W.Frag} {H : Hp} {Q : VK} (q : Q (.bl true) H) : rIsi K [.str x, .ty "str"] H Q := ⟨_, .ty "str", .type "str", .type "str", true, rfl, .ty "str", .base (.str x), kit_ty (by decide +kernel), q⟩
theorem q_str_list {x : Str} {K : PySem.W.Frag} {H : Hp} {Q : VK} (q : Q (.bl false) H) : rIsi K [.str x, .ty "list"] H Q := ⟨_, .ty "list", .type "str", .type "list", false, rfl, .ty "list", .base (.str x), kit_ty (by decide +kernel), q⟩
theorem q_str_tuple {x : Str} {K : PySem.W.Frag} {H : Hp} {Q : VK} (q : Q (.bl false) H) : rIsi K [.str x, .ty "tuple"] H Q := ⟨_, .ty "tuple", .type "str", .type "tuple", false, rfl, .ty "tuple", .base (.str x), kit_ty (by decide +kernel), q⟩
theorem q_str_dict {x : Str} {K : PySem.W.Frag} {H : Hp} {Q : VK} (q : Q (.bl false) H) : rIsi K [.str x, .ty "dict"] H Q := ⟨_, .ty "dict", .type "str", .type "dict", false, rfl, .ty "dict", .base (.str x), kit_ty (by decide +kernel), q⟩
theorem q_NoneType_int  {K : PySem.W.Frag} {H : Hp} {Q : VK} (q : Q (.bl false) H) : rIsi K [.non, .ty "int"] H Q := ⟨_, .ty "int", .type "NoneType", .type "int", false, rfl, .ty "int", .base .non, kit_ty (by decide +kernel), q⟩
theorem q_NoneType_bool  {K : PySem.W.Frag} {H : Hp} {Q : VK} (q : Q (.bl false) H) : rIsi K [.non, .ty "bool"] H Q := ⟨_, .ty "bool", .type "NoneType", .type "bool", false, rfl, .ty "bool", .base .non, kit_ty (by decide +kernel), q⟩
theorem q_NoneType_str  {K : PySem.W.Frag} {H : Hp} {Q : VK} (q : Q (.bl false) H) : rIsi K [.non, .ty "str"] H Q := ⟨_, .ty "str", .type "NoneType", .type "str", false, rfl, .ty "str", .base .non, kit_ty (by decide +kernel), q⟩
theorem q_NoneType_list  {K : PySem.W.Frag} {H : Hp} {Q : VK} (q : Q (.bl false) H) : rIsi K [.non, .ty "list"] H Q := ⟨_, .ty "list", .type "NoneType", .type "list", false, rfl, .ty "list", .base .non, kit_ty (by decide +kernel), q⟩
theorem q_NoneType_tuple  {K : PySem.W.Frag} {H : Hp} {Q : VK} (q : Q (.bl false) H) : rIsi K [.non, .ty "tuple"] H Q := ⟨_, .ty "tuple", .type "NoneType", .type "tuple", false, rfl, .ty "tuple", .base .non, kit_ty (by decide +kernel), q⟩
theorem q_NoneType_dict  {K : PySem.W.Frag} {H : Hp} {Q : VK} (q : Q (.bl false) H) : rIsi K [.non, .ty "dict"] H Q := ⟨_, .ty "dict", .type "NoneType", .type "dict", false, rfl, .ty "dict", .base .non, kit_ty (by decide +kernel), q⟩
theorem q_list_int {p : Addr} {xs : List V} {K : PySem.W.Frag} {H : Hp} {Q : VK} (h : H p = some (.lst xs)) (q : Q (.bl false) H) : rIsi K [.ref p, .ty "int"] H Q := ⟨_, .ty "int", .type "list", .type "int", false, rfl, .ty "int", .base (.lst h), kit_ty (by decide +kernel), q⟩
theorem q_list_bool {p : Addr} {xs : List V} {K : PySem.W.Frag} {H : Hp} {Q : VK} (h : H p = some (.lst xs)) (q : Q (.bl false) H) : rIsi K [.ref p, .ty "bool"] H Q := ⟨_, .ty "bool", .type "list", .type "bool", false, rfl, .ty "bool", .base (.lst h), kit_ty (by decide +kernel), q⟩
theorem q_list_str {p : Addr} {xs : List V} {K : PySem.W.Frag} {H : Hp} {Q : VK} (h : H p = some (.lst xs)) (q : Q (.bl false) H) : rIsi K [.ref p, .ty "str"] H Q := ⟨_, .ty "str", .type "list", .type "str", false, rfl, .ty "str", .base (.lst h), kit_ty (by decide +kernel), q⟩
theorem q_list_list {p : Addr} {xs : List V} {K : PySem.W.Frag} {H : Hp} {Q : VK} (h : H p = some (.lst xs)) (q : Q (.bl true) H) : rIsi K [.ref p, .ty "list"] H Q := ⟨_, .ty "list", .type "list", .type "list", true, rfl, .ty "list", .base (.lst h), kit_ty (by decide +kernel), q⟩
theorem q_list_tuple {p : Addr} {xs : List V} {K : PySem.W.Frag} {H : Hp} {Q : VK} (h : H p = some (.lst xs)) (q : Q (.bl false) H) : rIsi K [.ref p, .ty "tuple"] H Q := ⟨_, .ty "tuple", .type "list", .type "tuple", false, rfl, .ty "tuple", .base (.lst h), kit_ty (by decide +kernel), q⟩
theorem q_list_dict {p : Addr} {xs : List V} {K : PySem.W.Frag} {H : Hp} {Q : VK} (h : H p = some (.lst xs)) (q : Q (.bl false) H) : rIsi K [.ref p, .ty "dict"] H Q := ⟨_, .ty "dict", .type "list", .type "dict", false, rfl, .ty "dict", .base (.lst h), kit_ty (by decide +kernel), q⟩
theorem q_tuple_int {p : Addr} {xs : List V} {K : PySem.W.Frag} {H : Hp} {Q : VK} (h : H p = some (.tup xs)) (q : Q (.bl false) H) : rIsi K [.ref p, .ty "int"] H Q := ⟨_, .ty "int", .type "tuple", .type "int", false, rfl, .ty "int", .base (.tup h), kit_ty (by decide +kernel), q⟩
theorem q_tuple_bool {p : Addr} {xs : List V} {K : PySem.W.Frag} {H : Hp} {Q : VK} (h : H p = some (.tup xs)) (q : Q (.bl false) H) : rIsi K [.ref p, .ty "bool"] H Q := ⟨_, .ty "bool", .type "tuple", .type "bool", false, rfl, .ty "bool", .base (.tup h), kit_ty (by decide +kernel), q⟩
theorem q_tuple_str {p : Addr} {xs : List V} {K : PySem.W.Frag} {H : Hp} {Q : VK} (h : H p = some (.tup xs)) (q : Q (.bl false) H) : rIsi K [.ref p, .ty "str"] H Q := ⟨_, .ty "str", .type "tuple", .type "str", false, rfl, .ty "str", .base (.tup h), kit_ty (by decide +kernel), q⟩
theorem q_tuple_list {p : Addr} {xs : List V} {K : PySem.W.Frag} {H : Hp} {Q : VK} (h : H p = some (.tup xs)) (q : Q (.bl false) H) : rIsi K [.ref p, .ty "list"] H Q := ⟨_, .ty "list", .type "tuple", .type "list", false, rfl, .ty "list", .base (.tup h), kit_ty (by decide +kernel), q⟩
theorem q_tuple_tuple {p : Addr} {xs : List V} {K : PySem.W.Frag} {H : Hp} {Q : VK} (h : H p = some (.tup xs)) (q : Q (.bl true) H) : rIsi K [.ref p, .ty "tuple"] H Q := ⟨_, .ty "tuple", .type "tuple", .type "tuple", true, rfl, .ty "tuple", .base (.tup h), kit_ty (by decide +kernel), q⟩
theorem q_tuple_dict {p : Addr} {xs : List V} {K : PySem.W.Frag} {H : Hp} {Q : VK} (h : H p = some (.tup xs)) (q : Q (.bl false) H) : rIsi K [.ref p, .ty "dict"] H Q := ⟨_, .ty "dict", .type "tuple", .type "dict", false, rfl, .ty "dict", .base (.tup h), kit_ty (by decide +kernel), q⟩
theorem q_dict_int {p : Addr} {xs : List (Key × V)} {K : PySem.W.Frag} {H : Hp} {Q : VK} (h : H p = some (.dK xs)) (q : Q (.bl false) H) : rIsi K [.ref p, .ty "int"] H Q := ⟨_, .ty "int", .type "dict", .type "int", false, rfl, .ty "int", .base (.dK h), kit_ty (by decide +kernel), q⟩
theorem q_dict_bool {p : Addr} {xs : List (Key × V)} {K : PySem.W.Frag} {H : Hp} {Q : VK} (h : H p = some (.dK xs)) (q : Q (.bl false) H) : rIsi K [.ref p, .ty "bool"] H Q := ⟨_, .ty "bool", .type "dict", .type "bool", false, rfl, .ty "bool", .base (.dK h), kit_ty (by decide +kernel), q⟩
theorem q_dict_str {p : Addr} {xs : List (Key × V)} {K : PySem.W.Frag} {H : Hp} {Q : VK} (h : H p = some (.dK xs)) (q : Q (.bl false) H) : rIsi K [.ref p, .ty "str"] H Q := ⟨_, .ty "str", .type "dict", .type "str", false, rfl, .ty "str", .base (.dK h), kit_ty (by decide +kernel), q⟩
theorem q_dict_list {p : Addr} {xs : List (Key × V)} {K : PySem.W.Frag} {H : Hp} {Q : VK} (h : H p = some (.dK xs)) (q : Q (.bl false) H) : rIsi K [.ref p, .ty "list"] H Q := ⟨_, .ty "list", .type "dict", .type "list", false, rfl, .ty "list", .base (.dK h), kit_ty (by decide +kernel), q⟩
theorem q_dict_tuple {p : Addr} {xs : List (Key × V)} {K : PySem.W.Frag} {H : Hp} {Q : VK} (h : H p = some (.dK xs)) (q : Q (.bl false) H) : rIsi K [.ref p, .ty "tuple"] H Q := ⟨_, .ty "tuple", .type "dict", .type "tuple", false, rfl, .ty "tuple", .base (.dK h), kit_ty (by decide +kernel), q⟩
theorem q_dict_dict {p : Addr} {xs : List (Key × V)} {K : PySem.W.Frag} {H : Hp} {Q : VK} (h : H p = some (.dK xs)) (q : Q (.bl true) H) : rIsi K [.ref p, .ty "dict"] H Q := ⟨_, .ty "dict", .type "dict", .type "dict", true, rfl, .ty "dict", .base (.dK h), kit_ty (by decide +kernel), q⟩

/-! ### loops -/
section
variable {K : PySem.W.Frag} {σ : L2.St} {H : Hp} {D : Ends} {g : TG} {tb : TS} {te : TE} {tr : TA} {c : TT}
/-! mono of tests -/
def MonoE (te : TE) : Prop := ∀ σ H (Q Q' : VK), (∀ v H1, Q v H1 → Q' v H1) → te σ H Q → te σ H Q'
def MonoT (t : TT) : Prop := ∀ σ H (Q Q' : Bool → Hp → Prop), (∀ b H1, Q b H1 → Q' b H1) → t σ H Q → t σ H Q'
def MonoR (r : R2) : Prop := ∀ x y H (Q Q' : VK), (∀ v H1, Q v H1 → Q' v H1) → r x y H Q → r x y H Q'
theorem m_var {n : Nat} : MonoE (tVar n) := fun _ _ _ _ f ⟨v, e, q⟩ => ⟨v, e, f _ _ q⟩
theorem m_c {v : V} : MonoE (tC v) := fun _ _ _ _ f q => f _ _ q
theorem m_op {r : R2} {ta tb : TE} (ha : MonoE ta) (hb : MonoE tb) (hr : MonoR r) : MonoE (tOp r ta tb) := fun _ _ _ _ f q => ha _ _ _ _ (fun _ _ q => hb _ _ _ _ (fun _ _ q => hr _ _ _ _ _ f q) q) q
theorem m_I0 {g : Int → Int → V} : MonoR (rI0 g) := fun _ _ _ _ _ f ⟨i, j, e1, e2, q⟩ => ⟨i, j, e1, e2, f _ _ q⟩
theorem m_eq : MonoR rEq := fun _ _ _ _ _ f ⟨h, q⟩ => ⟨h, f _ _ q⟩
theorem m_ne : MonoR rNe := fun _ _ _ _ _ f ⟨h, q⟩ => ⟨h, f _ _ q⟩
theorem m_eqP {K : PySem.W.Frag} : MonoR (rEqP K) := fun _ _ _ _ _ f h => h.elim (fun ⟨h, q⟩ => .inl ⟨h, f _ _ q⟩) fun ⟨d, e, h1, h2, h3, h4, q⟩ => .inr ⟨d, e, h1, h2, h3, h4, f _ _ q⟩
theorem m_neP {K : PySem.W.Frag} : MonoR (rNeP K) := fun _ _ _ _ _ f h => h.elim (fun ⟨h, q⟩ => .inl ⟨h, f _ _ q⟩) fun ⟨d, e, h1, h2, h3, h4, q⟩ => .inr ⟨d, e, h1, h2, h3, h4, f _ _ q⟩
theorem m_gt : MonoR rGtI := m_I0
theorem m_lt : MonoR rLtI := m_I0
theorem m_ge : MonoR rGeI := m_I0
theorem m_le : MonoR rLeI := m_I0
theorem m_test {te : TE} (h : MonoE te) : MonoT (tTest te) := fun _ _ _ _ f q => h _ _ _ _ (fun _ _ ⟨k, e, q⟩ => ⟨k, e, f _ _ q⟩) q
theorem m_or {t u : TT} (h : MonoT t) (h2 : MonoT u) : MonoT (tOr t u) := fun σ H Q Q' f q => h _ _ _ _ (fun b H1 q => by
  cases b with
  | true =>
    rw [if_pos rfl] at q ⊢
    exact f _ _ q
  | false =>
    rw [if_neg Bool.false_ne_true] at q ⊢
    exact h2 _ _ _ _ f q) q
theorem m_and {t u : TT} (h : MonoT t) (h2 : MonoT u) : MonoT (tAnd t u) := fun σ H Q Q' f q => h _ _ _ _ (fun b H1 q => by
  cases b with
  | true =>
    rw [if_pos rfl] at q ⊢
    exact h2 _ _ _ _ f q
  | false =>
    rw [if_neg Bool.false_ne_true] at q ⊢
    exact f _ _ q) q
/-- while: an invariant, a measure; the test's reading must not look at what is wanted -/
theorem r_while (Pv : Nat → L2.St → Hp → Prop) (m : Nat) (mono : MonoT c) (h0 : Pv m σ H)
    (hs : ∀ m σ H, Pv m σ H → c σ H fun b H1 => if b = true then tb { D with nx := fun σ' H' => ∃ m', m' < m ∧ Pv m' σ' H', ct := fun σ' H' => ∃ m', m' < m ∧ Pv m' σ' H', bk := D.nx } σ H1 else D.nx σ H1) : tWhile c tb D σ H := by
  refine ⟨fun m σ H => Pv m σ H, ⟨m, h0⟩, fun m σ H p => ?_⟩
  refine mono σ H _ _ (fun b H1 q => ?_) (hs m σ H p)
  cases b with
  | true => exact ⟨_, fun σ' H' h => h, q⟩
  | false => exact q
end

/-! ### what is walked -/
section
variable {K : PySem.W.Frag} {σ : L2.St} {H : Hp} {te : TE} {tr : TA} {R : It → Hp → Prop}
theorem s_L {p : Addr} {xs : List V} (h : SqL K H p xs) (q : R (Itl K p) H) : ∃ a, V.ref p = .ref a ∧ (∃ xs, SqL K H a xs) ∧ R (Itl K a) H := ⟨p, rfl, ⟨xs, h⟩, q⟩
theorem s_T {p : Addr} {xs : List V} (h : SqT K H p xs) (q : R (Itt K p) H) : ∃ a, V.ref p = .ref a ∧ (∃ xs, SqT K H a xs) ∧ R (Itt K a) H := ⟨p, rfl, ⟨xs, h⟩, q⟩
theorem s_S {z : Str} (q : R (Its z) H) : ∃ x, V.str z = .str x ∧ R (Its x) H := ⟨z, rfl, q⟩
theorem s_R1 {n : Int} (q : R (Itr 0 n.toNat) H) (h : -(2 ^ 62) ≤ n ∧ n < 2 ^ 62) : ∃ j : Int, [V.int n] = [.int j] ∧ -(2 ^ 62) ≤ j ∧ j < 2 ^ 62 ∧ R (Itr 0 j.toNat) H := ⟨n, rfl, h.1, h.2, q⟩
theorem s_R2 {m n : Int} (q : R (Itr m (n - m).toNat) H) (h : -(2 ^ 62) ≤ m ∧ m < 2 ^ 62 ∧ -(2 ^ 62) ≤ n ∧ n < 2 ^ 62) : ∃ i j : Int, [V.int m, .int n] = [.int i, .int j] ∧ (-(2 ^ 62) ≤ i ∧ i < 2 ^ 62 ∧ -(2 ^ 62) ≤ j ∧ j < 2 ^ 62) ∧ R (Itr i (j - i).toNat) H := ⟨m, n, rfl, h, q⟩
theorem s_E {p : Addr} {xs : List V} (h : SqL K H p xs) (q : R (Ite K p) H) : ∃ a xs, [V.ref p] = [.ref a] ∧ SqL K H a xs ∧ R (Ite K a) H := ⟨p, xs, rfl, h, q⟩
theorem s_Z {p r : Addr} {xs ys : List V} (h : SqL K H p xs) (h2 : SqL K H r ys) (q : R (Itz K p r) H) : ∃ a b xs ys, [V.ref p, .ref r] = [.ref a, .ref b] ∧ SqL K H a xs ∧ SqL K H b ys ∧ R (Itz K a b) H := ⟨p, r, xs, ys, rfl, h, h2, q⟩
theorem i_L (q : te σ H fun x H1 => ∃ a, x = .ref a ∧ (∃ xs, SqL K H1 a xs) ∧ R (Itl K a) H1) : iList K te σ H R := q
theorem i_T (q : te σ H fun x H1 => ∃ a, x = .ref a ∧ (∃ xs, SqT K H1 a xs) ∧ R (Itt K a) H1) : iTup K te σ H R := q
theorem i_S (q : te σ H fun v H1 => ∃ x, v = .str x ∧ R (Its x) H1) : iStr te σ H R := q
theorem i_R1 (q : tr σ H fun vs H1 => ∃ j : Int, vs = [.int j] ∧ -(2 ^ 62) ≤ j ∧ j < 2 ^ 62 ∧ R (Itr 0 j.toNat) H1) : iRng1 tr σ H R := q
theorem i_R2 (q : tr σ H fun vs H1 => ∃ i j : Int, vs = [.int i, .int j] ∧ (-(2 ^ 62) ≤ i ∧ i < 2 ^ 62 ∧ -(2 ^ 62) ≤ j ∧ j < 2 ^ 62) ∧ R (Itr i (j - i).toNat) H1) : iRng2 tr σ H R := q
theorem i_E (q : tr σ H fun vs H1 => ∃ a xs, vs = [.ref a] ∧ SqL K H1 a xs ∧ R (Ite K a) H1) : iEnum K tr σ H R := q
theorem i_Z (q : tr σ H fun vs H1 => ∃ a b xs ys, vs = [.ref a, .ref b] ∧ SqL K H1 a xs ∧ SqL K H1 b ys ∧ R (Itz K a b) H1) : iZip K tr σ H R := q
end
section
variable {σ : L2.St} {H : Hp} {Q : VK} {g : TG} {te : TE} {tt : TT} {tb : TS} {wi : TI} {vs : List Nat} {D : Ends} {J : It} {n : Nat} {G : Hp → Prop} {Y : Nat → Hp → V → Hp → Prop}
theorem walk_r0 {n : Nat} : Walk (Itr 0 n) n (fun _ => True) (fun i H x H' => H' = H ∧ x = .int (i : Nat)) := walk_range.mono (fun _ h => h) fun i H x H' _ _ y => ⟨y.1, y.2.trans (congrArg V.int (Int.zero_add _))⟩
/-- what a for asks of the iterator -/
def ForQ (σ : L2.St) (g : TG) (tb : TS) (D : Ends) : It → Hp → Prop := fun J H1 => ∃ W : Nat → Nat → L2.St → Hp → Prop, (∃ m, W 0 m σ H1) ∧ ∀ i m σ H, W i m σ H →
      (J.stop i H ∧ D.nx σ H) ∨ (J.go i H ∧ ∃ N : L2.St → Hp → Prop, (∀ σ' H', N σ' H' → ∃ m', m' < m ∧ W (i + 1) m' σ' H') ∧ ∀ x H', J.yld i H x H' → g x σ H' fun σ2 H2 => tb { D with nx := N, ct := N, bk := D.nx } σ2 H2)
theorem r_for (q : wi σ H (ForQ σ g tb D)) : tFor wi g tb D σ H := q
theorem forW (w : Walk J n G Y) (Pv : Nat → L2.St → Hp → Prop) (h0 : Pv 0 σ H) (hG : ∀ i σ H, i ≤ n → Pv i σ H → G H)
    (hs : ∀ i x σ H H', i < n → Pv i σ H → Y i H x H' → g x σ H' fun σ2 H2 => tb { D with nx := Pv (i + 1), ct := Pv (i + 1), bk := D.nx } σ2 H2) (hd : ∀ σ H, Pv n σ H → D.nx σ H) : ForQ σ g tb D J H := for_it w Pv h0 hG hs hd
/-- what a comprehension asks -/
def LcQ (σ : L2.St) (g : TG) (tt : TT) (te : TE) (vs : List Nat) (Q : VK) : It → Hp → Prop := fun J H1 => ∀ D, H1 D = none → ∃ W : Nat → Nat → Hp → Prop, (∃ m, W 0 m (upd H1 D (.lst []))) ∧ ∀ i m H, W i m H →
  (J.stop i H ∧ Q (.ref D) H) ∨ (J.go i H ∧ ∃ Nx : Hp → Prop, (∀ H', Nx H' → ∃ m', m' < m ∧ W (i + 1) m' H') ∧ ∀ x H', J.yld i H x H' → g x (wipe σ vs) H' fun σ2 H2 => wipe σ2 vs = wipe σ vs ∧ tt σ2 H2 fun b H3 =>
    if b = true then te σ2 H3 fun y H4 => ∃ acc, H4 D = some (.lst acc) ∧ acc.length < sizeLine ∧ Nx (upd H4 D (.lst (acc ++ [y]))) else Nx H3)
theorem r_lc (q : wi σ H (LcQ σ g tt te vs Q)) : tLc wi g tt te vs σ H Q := q
/-- between the turns: the new list at Dl holds acc, R of it; the heap ahead stands -/
def LcI (H : Hp) (Dl : Addr) (R : Nat → List V → Hp → Prop) (i : Nat) (H' : Hp) : Prop := ∃ acc : List V, acc.length ≤ i ∧ Same H H' ∧ H' Dl = some (.lst acc) ∧ R i acc H'
/-- .. behind the element -/
def LcP (H : Hp) (Dl : Addr) (R : Nat → List V → Hp → Prop) (i : Nat) (y : V) (H4 : Hp) : Prop := ∃ acc, H4 Dl = some (.lst acc) ∧ acc.length < sizeLine ∧ LcI H Dl R i (upd H4 Dl (.lst (acc ++ [y])))
theorem lcW (w : Walk J n G Y) (R : Nat → List V → Hp → Prop) (hw : wipe σ vs = σ) (hG : ∀ H', Same H H' → G H') (h0 : ∀ H', Same H H' → R 0 [] H')
    (hs : ∀ i x acc Dl H' H'', i < n → H Dl = none → Same H H' → H' Dl = some (.lst acc) → acc.length ≤ i → R i acc H' → Y i H' x H'' → g x σ H'' fun σ2 H2 => wipe σ2 vs = σ ∧ tt σ2 H2 fun b H3 =>
      if b = true then te σ2 H3 (LcP H Dl R (i + 1)) else LcI H Dl R (i + 1) H3)
    (hd : ∀ acc Dl H', H Dl = none → Same H H' → H' Dl = some (.lst acc) → R n acc H' → Q (.ref Dl) H') : LcQ σ g tt te vs Q J H := by
  intro Dl hD
  rw [hw]
  refine Eq.mp (by rw [hw]) (lc_it (σ := σ) (vs := vs) (g := g) (tt := tt) (te := te) (H1 := H) (D := Dl) (Qd := fun H' => Q (.ref Dl) H') w (LcI H Dl R) ⟨[], Nat.le_refl _, Same.new hD, upd_same, h0 _ (Same.new hD)⟩ (fun i H' _ ⟨_, _, e, _⟩ => hG H' e) (fun i x H' H'' hi ⟨acc, hl, e, ed, r⟩ y => ?_) fun H' ⟨acc, _, e, ed, r⟩ => hd acc Dl H' hD e ed r)
  rw [hw]
  exact hs i x acc Dl H' H'' hi hD e ed hl r y
theorem lc_put {Dl : Addr} {R : Nat → List V → Hp → Prop} {i : Nat} {y : V} {acc : List V} {H4 : Hp} (hi : i < 16777216) (hD : H Dl = none) (e : Same H H4) (h : H4 Dl = some (.lst acc)) (hl : acc.length ≤ i)
    (r : ∀ H5, But Dl H4 H5 → Same H H5 → R (i + 1) (acc ++ [y]) H5) : LcP H Dl R (i + 1) y H4 :=
  ⟨acc, h, szlt (by omega), acc ++ [y], by rw [List.length_append]; exact Nat.succ_le_succ hl, Same.but But.upd hD e, upd_same, r _ But.upd (Same.but But.upd hD e)⟩
theorem lc_skip {Dl : Addr} {R : Nat → List V → Hp → Prop} {i : Nat} {acc : List V} {H4 : Hp} (e : Same H H4) (h : H4 Dl = some (.lst acc)) (hl : acc.length ≤ i) (r : R (i + 1) acc H4) : LcI H Dl R (i + 1) H4 := ⟨acc, by omega, e, h, r⟩
theorem r_yes {QB : Bool → Hp → Prop} (q : QB true H) : tYes σ H QB := q
theorem r_wipe {σ' : L2.St} {B : Prop} (h : wipe σ' vs = σ) (q : B) : wipe σ' vs = σ ∧ B := ⟨h, q⟩
end
end Z

/-! Ze: own exception classes: made, raised, caught, kept, asked. -/
namespace Z
open PySem PySem.Spec PyProof.Rows L2

/-! ### a field of an f-string: None too -/
def rFmtN : V → Hp → VK → Prop := fun x H1 Q => (∃ y : Str, x = .str y ∧ y.length ≤ sizeLine ∧ Q (.str y) H1) ∨ (∃ i : Int, x = .int i ∧ i.natAbs.log2 < 1920 ∧ Q (.str (toString i)) H1) ∨ (x = .non ∧ Q (.str "None") H1)
def tFmtN (te : TE) : TE := fun σ H Q => te σ H fun x H1 => rFmtN x H1 Q
theorem pe_fmtN {X : Cx} {e : Expr} {te : TE} {pos : Pos} (he : PE X e te) : PE X (.FormattedValue e (-1) none pos) (tFmtN te) := by
  refine ⟨fun pins s σ H Q I h => ?_⟩
  refine wpAny_FormattedValue_plain (thn (he.run pins s σ H _ I h) fun v s1 hv => ?_)
  obtain ⟨x, H1, I1, r1, q⟩ := hv
  rcases q with ⟨y, rfl, hz, q⟩ | ⟨i, rfl, hz, q⟩ | ⟨rfl, q⟩
  · obtain ⟨t, rfl⟩ := r1
    exact wpAny_formatField_str ⟨.str y, H1, I1, ⟨t, rfl⟩, q⟩ ⟨.str y, H1, I1.tok _, ⟨_, rfl⟩, q⟩ hz
  · obtain ⟨t, rfl⟩ := r1
    exact wpAny_formatField_int hz ⟨.str (toString i), H1, I1.tok _, ⟨_, rfl⟩, q⟩
  · obtain rfl : v = Value.none := r1
    exact wpAny_formatField_none ⟨.str "None", H1, I1.tok _, ⟨_, rfl⟩, q⟩

/-! ### str(n) -/
theorem r_strN {n : Nat} {H : Hp} {Q : VK} (q : Q (.str (SX.S (TL.numL n))) H) (h : n < 10 ^ 60) : cStr [.int (n : Int)] H Q := by
  refine Z.r_strI ?_ ?_
  · rw [SX.num_S]
    exact q
  · by_cases h0 : n = 0
    · rw [h0]
      decide
    · have h2 : (10 : Nat) ^ 60 < 2 ^ 1920 := by decide +kernel
      exact (Nat.log2_lt (by omega)).mpr (by rw [Int.natAbs_natCast]; exact Nat.lt_trans h h2)
/-! ### a text so many times -/
def rMulS : R2 := fun x y H Q => ∃ (z : Str) (n : Int), x = .str z ∧ y = .int n ∧ PySem.MulOk z n ∧ Q (.str (Txt.mul z n)) H
theorem op_mulS {X : Cx} : OpR X (binaryOp .Mult) rMulS := by
  intro pins s σ H x y v u Q I rx ry h
  obtain ⟨z, n, rfl, rfl, hc, q⟩ := h
  obtain ⟨t, rfl⟩ := (show ∃ t, v = Value.str z t from rx)
  obtain ⟨t2, rfl⟩ := (show ∃ t, u = Value.int n t from ry)
  exact PySem.SB.mul hc fun t' k => ⟨.str (Txt.mul z n), H, I.tok k, ⟨t', rfl⟩, q⟩
theorem r_mulS {z : Str} {n : Int} {H : Hp} {Q : VK} (q : Q (.str (Txt.mul z n)) H) (h : PySem.MulOk z n) : rMulS (.str z) (.int n) H Q := ⟨z, n, rfl, rfl, h, q⟩
/-! ### D.__init__(self, ..), D an own class over ValueError without own __init__ -/
structure DearC (K : PySem.W.Frag) (D : Addr) : Prop where
  rd : PySem.W.readsIn K D (.type "type") = true
  ga : PySem.W.specialIn K (.ref D) "__getattribute__" = some (some (.builtin "type.__getattribute__"))
  at_ : PySem.W.findCls K (.ref D) (.type "type") "__init__" = some (.val (.builtin "ValueError.__init__"))
theorem pe_dearI {X : Cx} {x : Str} {D : Addr} {e : Expr} {es : List Expr} {ta : TA} {p1 p2 pos : Pos} {pl : Sem Bool} (hg : Gl X x) (hm : X.mg x = some (.ref D)) (C : DearC X.K D) (ha : PA X (e :: es) ta)
    (hdb : (x == ("__debug__" : Str)) = false := by decide)
    (hc : eval (.Call (.Attribute (.Name x p1) "__init__" p2) (e :: es) [] pos) X.env = (do
      let ov ← eval (.Name x p1) X.env
      standAt p2.atName
      let (f, first) ← holding [ov] (getMethod ov "__init__" pl)
      callWith pos f first (backTo pos (starEach (e :: es) X.env)) (backToKw pos (keywordEach [] X.env))) := by rfl)
    (he : starEach (e :: es) X.env = (false, eval e X.env) :: starEach es X.env := by rfl) (hpl : (backTo pos (starEach es X.env)).any (·.1) = false := by rfl) :
    PE X (.Call (.Attribute (.Name x p1) "__init__" p2) (e :: es) [] pos) (tVeI X.K ta) := by
  refine ⟨fun pins s σ H Q I h => ?_⟩
  refine PySem.W.methodCall_KW (ld_glob I hg hm ?_ hdb) hc
  refine PySem.W.method_cls I.kIn C.ga (PySem.W.cls_value I.kIn C.rd C.at_ rfl ?_)
  show wpAny _ _ (callWith pos (Value.builtin "ValueError.__init__") [] (backTo pos (starEach (e :: es) X.env)) []) _ _ _
  refine PyProof.Rows.callWith_method1 (thn (ha.run pos pins _ σ H _ (I.tok _) h) fun us s1 ⟨vs, H1, I1, r1, a, C, ws, ev, hl, T, ea, q⟩ => ?_) he hpl
  subst ev
  cases r1 with
  | @cons _ u0 _ ur ra rw' =>
    obtain rfl : u0 = Value.ref a := ra
    have hlen : ur.length ≤ sizeLine := by
      rw [← Paired.length rw', sizeLine_eq]
      omega
    exact oinit_ok T I1 ea hlen fun s' J => ⟨.non, H1, J, rfl, q⟩

/-! ### an exception that is kept behind the suite -/
/-- at a: an exception of the class cls, its dict d -/
def ExH (cls : Value) (d : Option Addr) (a : Addr) : HO := .ext fun h => ∃ (oe : Obj) (vs : Array Value), h.get? a = some oe ∧ Zc cls d oe ∧ oe.data = .fields vs
theorem exH_ok {P : Program} {w : World} {H : Hp} {h : Heap} {a : Addr} {cls : Value} {d : Option Addr} {oe : Obj} {vs : Array Value} (e : h.get? a = some oe) (z : Zc cls d oe) (k : oe.data = .fields vs) : ObjOk P w H h a (ExH cls d a) :=
  ⟨⟨oe, vs, e, z, k⟩, ⟨oe, e⟩, fun _ _ ⟨o, v, q, r⟩ k => ⟨o, v, k o q, r⟩⟩
section
variable {X : Cx} {pins : List (Addr × Obj)} {σ : L2.St} {H : Hp} {s : Shared}
theorem trackX {a : Addr} {o : HO} (I : Inv X pins σ H s) (n0 : X.s_0.heap.get? a = none) (hn : H a = none) (nL : a ≠ X.env.locals) (nC : ∀ x c, X.env.cells.lookup x = some c → c ≠ a) (nP : ∀ p ∈ X.pn ++ pins, p.1 ≠ a) (new : ObjOk X.prog X.w (upd H a o) s.heap a o) : Inv X pins σ (upd H a o) s := by
  have ne0 : ∀ b u, X.s_0.heap.get? b = some u → b ≠ a := fun b u e z => by
    rw [z, n0] at e
    cases e
  refine ⟨I.ok, I.os, I.bare, ⟨I.base.keep, I.base.slot, fun b u e n hx => ?_, I.base.there, fun b xs e => ?_, fun b u v e => ?_, fun b ps e => ?_⟩, I.loc, I.cell, ?_, fun x c e => ?_, fun p hp => ?_, ?_, I.len⟩
  · rw [upd_ne (ne0 b u e)]
    exact I.base.free b u e n hx
  · have q := I.base.tups b xs e
    rw [upd_ne (ne_of_none q hn)]
    exact q
  · have q := I.base.frzs b u v e
    rw [upd_ne (ne_of_none q hn)]
    exact q
  · obtain ⟨m, q⟩ := I.base.tbls b ps e
    exact ⟨m, by rw [upd_ne (ne_of_none q hn)]; exact q⟩
  · rw [upd_ne (Ne.symm nL)]
    exact I.free
  · rw [upd_ne (nC x c e)]
    exact I.freeC x c e
  · obtain ⟨e, n, nl, nf, d⟩ := I.pin p hp
    exact ⟨e, by rw [upd_ne (nP p hp)]; exact n, nl, nf, d⟩
  · exact L2.HOk.laidN I.hok (fun _ _ q => q) hn new
end
/-- what the clause 'except x as n' wishes of an exception of the body, kept -/
def wKeep (K : PySem.W.Frag) (c : Value) (i : Nat) (ts : Addr → Value → Option Addr → TS) (Wout : WX) (D : Ends) : WX := fun cls d σ H =>
  ∃ b, PySem.W.exmOne K cls c = some b ∧ (b = true → ∀ a, H a = none → ts a cls d { nx := fun σ' H' => D.nx (σ'.set i none) (upd H' a (ExH cls d a)), rt := fun v H' => D.rt v (upd H' a (ExH cls d a)), bk := fun σ' H' => D.bk (σ'.set i none) (upd H' a (ExH cls d a)), ct := fun σ' H' => D.ct (σ'.set i none) (upd H' a (ExH cls d a)) } (σ.set i (some (.ref a))) H) ∧
    (b = false → Wout cls d σ H)

section
variable {X : Cx} {x n : Str} {c : Value} {i : Nat} {body suite : List Stmt} {b₀ : Stmt} {np pos pos' : Pos} {tb : WX → TS} {ts : Addr → Value → Option Addr → TS} {Wout : WX}
theorem ps_keep (hs : X.stack = X.env :: X.outer) (hf : X.env.frame = some X.env.locals) (hex : X.ex = []) (hN : X.N.Nodup) (hi : X.N[i]? = some n) (hln : X.env.kindOf n = some .local) (hc : Names X x c) (tk : Takes X Wout)
    (hb : ∀ (W : WX) (pn : List (Addr × Obj)) (xe : Value → Shared → Prop), Takes (X.tr pn xe) W → PassesOwn (model X.prog X.w) X.A X.env xe → PSs (X.tr pn xe) body (tb W))
    (hsu : ∀ (a : Addr) (oe : Obj) (cls : Value) (d : Option Addr) (pn : List (Addr × Obj)), Zc cls d oe → (∃ vs, oe.data = .fields vs) → PSs (X.suite a ((a, oe) :: pn)) (b₀ :: suite) (ts a cls d)) :
    PS X (.Try body [.ExceptHandler (some (.Name x np)) (some n) (b₀ :: suite) pos'] [] [] pos) (fun D σ H => tb (wKeep X.K c i ts Wout D) D σ H) := by
  refine ⟨fun pins s σ H D I h => ?_⟩
  have ok := I.ok
  have hfr : X.A.frames = some (X.env :: X.outer) := by rw [ok.frames, hs]
  have hloc : Loc X.env.scope n := .inl hln
  refine wpAny_Try_except ?_
  refine wpAny_mono ((hb (wKeep X.K c i ts Wout D) (X.pn ++ pins) (fun e s₁ => wpAny (model X.prog X.w) X.A (noteFrame e X.env) (fun _ s₂ => wpAny (model X.prog X.w) X.A (setFlight e none) (fun _ s₃ =>
    wpAny (model X.prog X.w) X.A (handleBy e X.env [.ExceptHandler (some (.Name x np)) (some n) (b₀ :: suite) pos']) (SP X pins D) X.xe s₃) X.xe s₂) X.xe s₁) (fun u s' xx => ?_) PassesOwn.looking).run [] s σ H D (I.toTry _) h) (fun f s1 hsp => ?_) (fun e s1 he => he)
  · -- the catch
    obtain ⟨a, B, sI, pins', σ', H', cls, d, rfl, J', nb, up, sky, na, os, ag, b, hb1, hyes, hno⟩ := xx
    have J : Inv X pins σ' H' sI := J'.ofTry ok
    have sky' : Sky B (X.env :: X.outer) a (Zc cls d) X.env.locals s'.heap := by rw [← hs]; exact sky
    show wpAny (model X.prog X.w) X.A (noteFrame (.ref a) X.env) _ _ _
    refine Sky.land Zc.steady hfr hf sky' fun h3 fl3 up3 => ?_
    have J3 : Inv X pins σ' H' { s' with heap := h3 } := J.landed nb fl3.1 (up.trans up3) os ag
    obtain ⟨oe3, vs3, he3, hz3, hd3⟩ := fl3.there
    have notFr : ∀ {h : Heap} {o : Obj} {vs : Array Value}, h.FunFrames B (X.env :: X.outer) → h.get? a = some o → o.data = .fields vs → a ∉ frs (X.env :: X.outer) := fun {h o vs} ff e dd hm => by
      obtain ⟨_, o', e', hnf⟩ := ff.mem hm
      rw [e] at e'; cases e'
      exact hnf _ dd
    have nfr := notFr fl3.2.2.1 he3 hd3
    have nL : a ≠ X.env.locals := fun z => nfr (List.mem_filterMap.mpr ⟨X.env, List.mem_cons_self, by rw [hf, z]⟩)
    have nF : a ∉ X.fs := fun hm => by
      obtain ⟨e, he, q⟩ := List.mem_filterMap.mp hm
      exact nfr (List.mem_filterMap.mpr ⟨e, List.mem_cons_of_mem _ he, q⟩)
    -- new
    have nB : B.get? a = none := fl3.2.1
    have nI : sI.heap.get? a = none := by
      cases e : sI.heap.get? a with
      | none => rfl
      | some o =>
        have q := nb a o e (by rw [hs]; exact nfr)
        rw [nB] at q
        cases q
    have n0 : X.s_0.heap.get? a = none := by
      cases e : X.s_0.heap.get? a with
      | none => rfl
      | some o =>
        obtain ⟨o', q⟩ := J.base.there a o e (by rw [hex]; exact fun z => nomatch z)
        rw [nI] at q
        cases q
    have nC : ∀ x c, X.env.cells.lookup x = some c → c ≠ a := fun x c e z => by
      obtain ⟨v, o, ho, _⟩ := J.cell x c e
      rw [z, nI] at ho
      cases ho
    have nP : ∀ p ∈ X.pn ++ pins, p.1 ≠ a := fun p hp z => by
      have q := (J.pin p hp).1
      rw [z, nI] at q
      cases q
    have S3 := J3.suite he3 hd3 na nL nF
    refine wpAny_handleBy_cons (codeAny_handlers_test ?_) (by intro q; cases q)
    have LT : PySem.W.Looks (model X.prog X.w) h3 (typeOf (.ref a)) cls := fun A Q E s k q => wpAny_typeOf_ref (k _ _ he3) (by rw [hz3.1]; exact q)
    have LM := PySem.W.exm_one (M := model X.prog X.w) (J3.kIn) LT hb1
    have test : ∀ {Q : Value → Shared → Prop} {E : Value → Shared → Prop}, Q c { s' with heap := h3 } → wpAny (model X.prog X.w) (X.A.mark (some (.ref a))) (eval (.Name x np) X.env) Q E { s' with heap := h3 } := fun {Q E} q => by
      obtain ⟨hg, hdbg, hm | ⟨hm, hv, hnn⟩⟩ := hc
      · exact ld_glob (X := X.suite a ((a, oe3) :: (X.pn ++ pins))) S3 hg hm q hdbg
      · exact ld_blt (X := X.suite a ((a, oe3) :: (X.pn ++ pins))) S3 hg hm hv q hnn hdbg
    refine test (LM.here ?_)
    cases b with
    | true =>
      refine codeAny_handlers_suite_as ?_
      refine HandSPX.lands_againZ fl3 fun h4 fl4 up4 => ?_
      have J4 : Inv X pins σ' H' { s' with heap := h4 } := J.landed nb fl4.1 ((up.trans up3).trans up4) os ag
      obtain ⟨oe4, vs4, he4, hz4, hd4⟩ := fl4.there
      have S4 := J4.suite he4 hd4 na nL nF
      refine store_ok (X := X.suite a ((a, oe4) :: (X.pn ++ pins))) (v := .ref a) S4 hN hi hloc rfl (fun s5 S5 => ?_) (.inr hln)
      refine wpAny_mono ((hsu a oe4 cls d (X.pn ++ pins) hz4 ⟨_, hd4⟩).run [] s5 _ H' _ S5 (hyes rfl a na)) (fun f s6 hsp => ?_) (fun _ _ z => False.elim z)
      have end_ : ∀ {σ6 : L2.St} {H6 : Hp} {Q : Shared → Prop}, Inv (X.suite a ((a, oe4) :: (X.pn ++ pins))) [] σ6 H6 s6 → (∀ s7, Inv X pins (σ6.set i none) (upd H6 a (ExH cls d a)) s7 → Q s7) →
          wpAny (model X.prog X.w) X.A (do bindName X.env n .none; unbindBehindTheSuite X.env n pos') (fun _ s7 => Q s7) X.xe s6 := fun {σ6 H6 Q} S6 hq => gone_ok (X := X.suite a ((a, oe4) :: (X.pn ++ pins))) S6 hN hi hln fun s7 S7 => by
        obtain ⟨e7, n7, _⟩ := S7.pin (a, oe4) (List.mem_append_left _ List.mem_cons_self)
        exact hq s7 (trackX (S7.unsuite ok) n0 n7 nL nC nP (exH_ok e7 hz4 hd4))
      cases f with
      | next =>
        obtain ⟨σ6, H6, S6, q6⟩ := hsp
        exact end_ S6 fun s7 J7 => ⟨_, _, J7, q6⟩
      | brk =>
        obtain ⟨σ6, H6, S6, q6⟩ := hsp
        exact end_ S6 fun s7 J7 => ⟨_, _, J7, q6⟩
      | cont =>
        obtain ⟨σ6, H6, S6, q6⟩ := hsp
        exact end_ S6 fun s7 J7 => ⟨_, _, J7, q6⟩
      | ret u =>
        obtain ⟨v6, σ6, H6, S6, r6, q6⟩ := hsp
        exact end_ S6 fun s7 J7 => ⟨_, _, _, J7, r6, q6⟩
    | false =>
      show wpAny _ X.A (handleBy (.ref a) X.env []) _ _ _
      refine wpAny_handleBy_nil ?_
      obtain ⟨k1, k2, k3, oe, vs, T, oT, ts', he, hz, hd, h1, hr⟩ := id fl3
      unfold PySem.passOn
      refine wpAny_bind (wpAny_field he hd h1 ?_)
      rw [if_neg (show ¬ ((Value.ref T == Value.none) = true) from by simp)]
      have fin : wpAny (model X.prog X.w) X.A (setFlight (.ref a) X.env.frame) (fun _ s4 => wpAny (model X.prog X.w) X.A (throw (.ref a) : Sem Flow) (SP X pins D) X.xe s4) X.xe { s' with heap := h3 } := by
        rw [hf]
        refine HandSPX.setFlight_upZ fl3 fun h4 hh4 up4 => wpAny_throw (tk _ _ ?_)
        exact ⟨a, B, sI, pins, σ', H', cls, d, rfl, J, nb, (up.trans up3).trans up4, .inr (.inr (by rw [hs]; exact hh4)), na, os, ag, hno rfl⟩
      first
        | exact wpAny_bind (wpAny_pure (wpAny_bind fin))
        | exact wpAny_bind fin
  · cases f with
    | next =>
      obtain ⟨σ', H', J', q⟩ := hsp
      exact wpAny_execs_nil ⟨σ', H', J'.ofTry ok, q⟩
    | brk =>
      obtain ⟨σ', H', J', q⟩ := hsp
      exact ⟨σ', H', J'.ofTry ok, q⟩
    | cont =>
      obtain ⟨σ', H', J', q⟩ := hsp
      exact ⟨σ', H', J'.ofTry ok, q⟩
    | ret u =>
      obtain ⟨v, σ', H', J', r, q⟩ := hsp
      exact ⟨v, σ', H', J'.ofTry ok, r, q⟩
end

theorem r_caught {K : PySem.W.Frag} {c : Value} {i : Nat} {ts : Addr → Value → Option Addr → TS} {Wout : WX} {D : Ends} {cls : Value} {d : Option Addr} {σ : L2.St} {H : Hp} (e : PySem.W.exmOne K cls c = some true)
    (h : ∀ a, H a = none → ts a cls d { nx := fun σ' H' => D.nx (σ'.set i none) (upd H' a (ExH cls d a)), rt := fun v H' => D.rt v (upd H' a (ExH cls d a)), bk := fun σ' H' => D.bk (σ'.set i none) (upd H' a (ExH cls d a)), ct := fun σ' H' => D.ct (σ'.set i none) (upd H' a (ExH cls d a)) } (σ.set i (some (.ref a))) H) :
    wKeep K c i ts Wout D cls d σ H := ⟨true, e, fun _ => h, fun z => nomatch z⟩
/-! ### isinstance and fields of such a one -/
section
open PySem.W
variable {prog : Program} {w : World} {A : Around} {E : Value → Shared → Prop} {s : Shared} {K : Frag} {x D : Addr} {ox : Obj} {od : Option Obj}
theorem findObj_dataA {C : Addr} {name : Str} {a g : Value} (hc : (clsIn K C).isSome = true) (ha : findIn K (.ref C) name = some (some a)) (hg : specialIn K a "__get__" = some (some g)) (ht : takesIn K a = some true) : findObj K C od name = some (.bind g a) := by
  obtain ⟨cd, hc⟩ := Option.isSome_iff_exists.mp hc
  unfold findObj
  rw [hc, Option.bind_some, ha, Option.bind_some]
  simp [hg, ht]
theorem kin_classA {Q : Option Value → Shared → Prop} (C : ExcC K D)
    (X : K.In s.heap) (I : InstAt s.heap x ox D od) (h : Q (some (.ref D)) { s with toks := s.toks + 1 }) : wpAny (model prog w) A (getAttr? (.ref x) "__class__") Q E s := by
  have hf : findObj K D od "__class__" = some (.bind (.builtin "getset_descriptor.__get__") (.builtin "object.__class__")) := findObj_dataA (by obtain ⟨cd, hc, _⟩ := any_some C.hd; rw [hc]; rfl) C.ha C.hn C.ht
  obtain ⟨hp, g, d, t, os⟩ := s
  have L0 := I.type (M := model prog w)
  have L1 := looks_findIn (M := model prog w) X C.hg
  have L2 := looks_findIn (M := model prog w) X C.hk
  have L3 := looks_find (M := model prog w) X I hf
  have sub : Looks (model prog w) hp (isInstance (.ref x) (.type "BaseException")) true := L0.andThen (looks_subIn X C.hs)
  have hx0 : (false && onTheHeap (Value.builtin "BaseException.__getattribute__")) = false := rfl
  have hx2 : (Value.builtin "BaseException.__getattribute__" == Value.builtin "object.__getattribute__") = false := by decide +kernel
  have hx1 : (onTheHeap (Value.ref D) && Value.builtin "BaseException.__getattribute__" == Value.builtin "object.__getattribute__") = false := by rw [hx2]; rfl
  unfold getAttr? getAttrBy? getAttrBy
  refine wpAny_bind (wpAny_mkText (wpAny_bind (wpAny_attempt (wpAny_holding (wpAny_bind (L0.at (wpAny_bind (L1.at ?_))))))))
  show wpAny _ _ (if (onTheHeap (Value.ref D) && Value.builtin "BaseException.__getattribute__" == Value.builtin "object.__getattribute__") = true then _ else _) _ _ _
  rw [hx1, if_neg Bool.false_ne_true]
  unfold getAttrByItsOwn hookBefore
  refine wpAny_bind ?_
  rw [if_pos (show onTheHeap (Value.ref D) = true from rfl)]
  refine L2.at ?_
  refine wpAny_bind (wpAny_attempt (wpAny_holding ?_))
  unfold callGetattribute
  rw [hx0, if_neg Bool.false_ne_true]
  unfold boundAndCalled
  rw [PySem.F.excAttr_ValueError.ga.bind (.ref x)]
  refine wpAny_bind (wpAny_pure ?_)
  show wpAny _ _ (call (.builtin "BaseException.__getattribute__") [.ref x, .str "__class__" t]) _ _ _
  refine wpAny_call (codeAny_call_builtin PySem.F.excAttr_ValueError.ga.plain PySem.F.entry_bexc_ga ?_)
  refine @check_slot (model prog w) _ _ ⟨hp, g, d, t + 1, os⟩ "BaseException.__getattribute__" "BaseException" "__getattribute__" (.ref x) [.str "__class__" t] [] _ (by decide +kernel) (by decide +kernel) sub (PySem.F.args_bexc_ga (.ref x) (.str "__class__" t)) ?_
  unfold Builtin.«object.__getattribute__»
  refine wpAny_bind (wpAny_of_eq (a := ((Value.ref x : Value), [Value.str "__class__" t])) (by first | rfl | (simp only [slotArgs]; rfl)) ?_)
  refine wpAny_bind (wpAny_pure (wpAny_bind (L0.at (wpAny_bind (L3.at ?_)))))
  show wpAny _ _ (holding [Value.builtin "object.__class__"] (call (.builtin "getset_descriptor.__get__") [.builtin "object.__class__", .ref x, .ref D]) >>= ret) _ _ _
  refine wpAny_bind (wpAny_holding (wpAny_call (class_get (s := ⟨hp, g, d, t + 1, os⟩) (ox := ox) (od := od) X I C.hm ?_)))
  refine wpAny_pure ?_
  show wpAny _ _ (handedOut (.ref D)) _ _ _
  rw [handedOut_of (v := .ref D) rfl]
  first
    | exact wpAny_pure (wpAny_pure h)
    | exact wpAny_pure h
    | exact wpAny_pure (wpAny_bind (wpAny_pure (wpAny_pure h)))
theorem kitx_excA (C : ExcC K D) : KitX K (.ref x) (.ref D) (fun h => InstAt h x ox D od) where
  ty := fun _ _ _ I => I.type
  it := fun _ _ X _ => by
    obtain ⟨cdD, hcD, _⟩ := any_some C.hd
    unfold clsIn at hcD
    split at hcD
    · rename_i c' d' cd' sl' ho
      intro A' Q' E' s' k q
      unfold isType loadHead
      exact wpAny_bind (wpAny_loadPart (k _ _ (X _ _ ho)) (wpAny_pure q))
    · cases hcD
  ne := fun h tp dd its n sl X htp => by
    obtain ⟨cdD, hcD, _⟩ := any_some C.hd
    refine Bool.eq_false_iff.mpr fun q => ?_
    have e : D = tp := Value.ref.inj (beq_iff_eq.mp q)
    subst e
    unfold clsIn at hcD
    split at hcD
    · rename_i c' d' cd' sl' ho
      have z := (X _ _ ho).symm.trans htp
      cases z
    · cases hcD
  ca := fun X I k => kin_classA C X I k
end
/-- its dict is there -/
def DictV (H : Hp) (d : Option Addr) : Prop := d = none ∨ ∃ dd fs, d = some dd ∧ H dd = some (.xd fs)
theorem exH_at {X : Cx} {pins : List (Addr × Obj)} {σ : L2.St} {H : Hp} {s : Shared} {a C : Addr} {d : Option Addr} (I : Inv X pins σ H s) (h : H a = some (ExH (.ref C) d a)) (hd : DictV H d) : ∃ ox od, PySem.W.InstAt s.heap a ox C od := by
  have q : ObjOk X.prog X.w H s.heap a (.ext fun h => ∃ (oe : Obj) (vs : Array Value), h.get? a = some oe ∧ Zc (.ref C) d oe ∧ oe.data = .fields vs) := I.hok a _ h
  obtain ⟨oe, vs, ha, hz, hv⟩ := q.1
  rcases hd with rfl | ⟨dd, fs, rfl, hx⟩
  · obtain ⟨oc, od, oda, osl⟩ := oe
    obtain ⟨h1, h2⟩ := hz
    dsimp only at h1 h2 hv
    subst h1 h2 hv
    exact ⟨_, none, ha, rfl, rfl, trivial⟩
  · have hy : ObjOk X.prog X.w H s.heap dd (.xd fs) := I.hok dd _ hx
    obtain ⟨mA, hns, hr⟩ := hy
    obtain ⟨o, es, ep, ho, _⟩ := hns
    exact ⟨oe, some o, ha, hz.1, by unfold PySem.W.notCls; rw [hv] <;> rfl, by rw [hz.2]; exact ho⟩
def rIsX (K : PySem.W.Frag) : List V → Hp → VK → Prop := fun xs H Q => ∃ (a C : Addr) (d : Option Addr) (c : V) (u : Value) (b : Bool), xs = [.ref a, c] ∧ H a = some (ExH (.ref C) d a) ∧ DictV H d ∧ ExcC K C ∧ ClsV c u ∧ PySem.W.kitOne K (.ref C) u = some b ∧ Q (.bl b) H
def rIsXT (K : PySem.W.Frag) : List V → Hp → VK → Prop := fun xs H Q => ∃ (a C : Addr) (d : Option Addr) (tp : Addr) (cs : List V) (us : List Value) (b : Bool), xs = [.ref a, .ref tp] ∧ H a = some (ExH (.ref C) d a) ∧ DictV H d ∧ ExcC K C ∧ H tp = some (.tup cs) ∧ Paired ClsV cs us ∧ PySem.W.kitAny K (.ref C) us = some b ∧ Q (.bl b) H
def rIsiX (K : PySem.W.Frag) : List V → Hp → VK → Prop := fun xs H Q => rIsi K xs H Q ∨ rIsX K xs H Q
def rIsiXT (K : PySem.W.Frag) : List V → Hp → VK → Prop := fun xs H Q => rIsiT K xs H Q ∨ rIsXT K xs H Q
section
variable {X : Cx}
theorem call_isX : CallR X (.builtin "isinstance") (rIsX X.K) := by
  intro pins s σ H xs us Q I r h
  obtain ⟨a, C, d, c, u, b, rfl, ha, hd, hC, k, e, q⟩ := h
  obtain ⟨u1, u2, rfl, r1, r2⟩ := vals2 r
  have e2 := k.eq r2
  subst e2
  obtain rfl : u1 = Value.ref a := r1
  obtain ⟨ox, od, J⟩ := exH_at I ha hd
  exact PySem.W.kia_one (kitx_excA hC) I.kIn J e (fun z => nomatch z) fun tk => ⟨.bl b, H, I.tok tk, rfl, q⟩
theorem call_isXT : CallR X (.builtin "isinstance") (rIsXT X.K) := by
  intro pins s σ H xs us Q I r h
  obtain ⟨a, C, d, tp, cs, ws, b, rfl, ha, hd, hC, hT, k, e, q⟩ := h
  obtain ⟨u1, u2, rfl, r1, r2⟩ := vals2 r
  cases (show u2 = Value.ref tp from r2)
  obtain rfl : u1 = Value.ref a := r1
  obtain ⟨ox, od, J⟩ := exH_at I ha hd
  obtain ⟨_, its, rv, o, h1, h2, n, h3⟩ := (show ObjOk X.prog X.w H s.heap tp (.tup cs) from I.hok tp _ hT)
  have e3 := ClsV.all k rv
  subst e3
  obtain ⟨oc, od', dt, sl⟩ := o
  simp only at h2 h3
  subst h2 h3
  exact PySem.W.kia_tup (kitx_excA hC) I.kIn J h1 e (fun z => nomatch z) fun tk => ⟨.bl b, H, I.tok tk, rfl, q⟩
theorem call_isiX : CallR X (.builtin "isinstance") (rIsiX X.K) := fun pins s σ H xs us Q I r h => h.elim (fun h => call_isi pins s σ H xs us Q I r h) fun h => call_isX pins s σ H xs us Q I r h
theorem call_isiXT : CallR X (.builtin "isinstance") (rIsiXT X.K) := fun pins s σ H xs us Q I r h => h.elim (fun h => call_isiT pins s σ H xs us Q I r h) fun h => call_isXT pins s σ H xs us Q I r h
theorem k_isiX (K : PySem.W.Frag) (hK : X.K = K := by rfl) : CallR X (.builtin "isinstance") (rIsiX K) := hK ▸ call_isiX
theorem k_isiXT (K : PySem.W.Frag) (hK : X.K = K := by rfl) : CallR X (.builtin "isinstance") (rIsiXT K) := hK ▸ call_isiXT
/-- e.n, e such an exception -/
def tXv (K : PySem.W.Frag) (n : Str) (te : TE) : TE := fun σ H Q => te σ H fun x H1 => ∃ (a C dd : Addr) (fs : List (Str × V)) (v : V), x = .ref a ∧ H1 a = some (ExH (.ref C) (some dd) a) ∧ H1 dd = some (.xd fs) ∧ fs.lookup n = some v ∧ XfC K C ∧ PySem.W.findIn K (.ref C) n = some none ∧ Q v H1
theorem pe_xv (K : PySem.W.Frag) {e : Expr} {te : TE} {pos : Pos} {n : Str} (he : PE X e te) (hK : X.K = K := by rfl) (hb : attributeBase e n X.env (eval e X.env) = eval e X.env := by rfl) : PE X (.Attribute e n pos) (tXv K n te) := by
  subst hK
  refine ⟨fun pins s σ H Q I h => ?_⟩
  refine attr_of hb (thn (he.run pins s σ H _ I h) fun u s1 hh => ?_)
  obtain ⟨x, H1, I1, rx, a, C, dd, fs, v, ex, ha, hx, l, T, hno, q⟩ := hh
  subst ex
  obtain rfl : u = Value.ref a := rx
  have z : ObjOk X.prog X.w H1 s1.heap a (.ext fun h => ∃ (oe : Obj) (vs : Array Value), h.get? a = some oe ∧ Zc (.ref C) (some dd) oe ∧ oe.data = .fields vs) := I1.hok a _ ha
  obtain ⟨oe, vs, ho, hz, hv⟩ := z.1
  have hy : ObjOk X.prog X.w H1 s1.heap dd (.xd fs) := I1.hok dd _ hx
  obtain ⟨mA, hns, hr⟩ := hy
  obtain ⟨od, hod, hl⟩ := lookIn_ns hns
  obtain ⟨u, hu, ru⟩ := RelO.some_of (v := v) (o := mA n) (by rw [← l]; exact hr n)
  have J : PySem.W.InstAt s1.heap a oe C (some od) := ⟨ho, hz.1, by unfold PySem.W.notCls; rw [hv] <;> rfl, by rw [hz.2]; exact hod⟩
  exact HandSPX.exc_get I1.kIn J T.ga T.gg T.exC (PySem.W.findObj_own T.hdC hno rfl (by rw [hl, hu])) (handed_of ru) ⟨v, H1, I1.tok _, ru, q⟩
end

/-! ### calls of defs that may raise -/
def tCE (sp : Sp) (dvs : List V) (W : WX) (t : TA) : TE := fun σ H Q => t σ H fun vs H1 => sp (vs ++ dvs) H1 Q (WE W σ)
section
variable {X : Cx} {k j : Nat} {x : Str} {sp : Sp} {dvs : List V} {p pos : Pos} {e : Expr} {es : List Expr} {t : TA} {W : WX}
theorem pe_ce (c : Cf X.prog X.w X.K X.mg X.base (L2.CX X.prog X.w) k x sp dvs) (hr : Room j X.A) (hk : k ≤ j) (hg : Gl X x) (tk : Takes X W) (ha : PA X (e :: es) t)
    (hdb : (x == ("__debug__" : Str)) = false := by decide) (he : starEach (e :: es) X.env = (false, eval e X.env) :: starEach es X.env := by rfl) (hpl : (backTo pos (starEach es X.env)).any (·.1) = false := by rfl) :
    PE X (.Call (.Name x p) (e :: es) [] pos) (tCE sp dvs W t) := by
  obtain ⟨f, fd, ps, ds, F, hm, kp, b, d⟩ := c.ex
  exact pe_callSD F (hr.mono hk) hg hm kp b d (fun σ => passAt tk σ) ha hdb he hpl
end
/-! ### a method of a class as it stands behind the top -/
structure AtM (K : PySem.W.Frag) (p : Str × Option Str) (n q : Str) (st : Stmt) : Prop where
  ex : ∃ fd : FuncData, FunD K n q (defArgs st) (defBody st) (defScope st) [] [] (He.fAd K p) fd
/-- an own class with own __init__(self, f): message and field -/
structure OexM (K : PySem.W.Frag) (mg : Str → Option Value) (x f : Str) : Prop where
  gl : mg x = some (.ref (He.ga K x))
  oe : OexC K (He.ga K x)
  fi : PySem.W.findIn K (.ref (He.ga K x)) "__init__" = some (some (.ref (He.fAd K (x, some "__init__"))))
  ft : PySem.W.typeIn K (.ref (He.fAd K (x, some "__init__"))) = some (.type "function")
  no : PySem.W.findIn K (.ref (He.ga K x)) f = some none
  xf : XfC K (He.ga K x)
/-- .. without: X('..') -/
structure OexN (K : PySem.W.Frag) (mg : Str → Option Value) (x : Str) : Prop where
  gl : mg x = some (.ref (He.ga K x))
  ei : PySem.W.excIn K (He.ga K x) [.type "ValueError", .type "Exception", .type "BaseException", .type "object"] "ValueError.__new__" = true
  kp : PySem.W.keepIn K (.ref (He.ga K x)) = true
  bs : PySem.W.subIn K (.ref (He.ga K x)) (.type "BaseException") = some true
  ty : PySem.W.typeIn K (.ref (He.ga K x)) = some (.type "type")
def FmtV (x : V) : Prop := x = .non ∨ (∃ y : Str, x = .str y ∧ y.length ≤ 1000) ∨ ∃ i : Int, x = .int i ∧ 0 ≤ i ∧ i < 10 ^ 300
theorem fmt_int {i : Int} (h : 0 ≤ i) (h2 : i < 10 ^ 300) : FmtV (.int i) := .inr (.inr ⟨i, rfl, h, h2⟩)
theorem fmt_nat {i : Nat} (h2 : i < 10 ^ 300) : FmtV (.int i) := fmt_int (by omega) (by exact_mod_cast h2)
def clsB : Stmt → List Stmt
  | .ClassDef (body := b) .. => b
  | _ => []
def sp_xi (K : PySem.W.Frag) (x f : Str) : Sp := fun vs H Q _ => ∃ (a : Addr) (y : V), vs = [.ref a, y] ∧ H a = some (exo a (He.ga K x) none) ∧ FmtV y ∧ ∀ d, H d = none → d ≠ a → Q .non (upd (upd H d (exd d [(f, y)])) a (exo a (He.ga K x) (some d)))

/-! ### facts by names -/
abbrev veB : List Value := [.type "ValueError", .type "Exception", .type "BaseException", .type "object"]
open He in
def excCB (K : PySem.W.Frag) (D : Addr) : Bool := eqO (PySem.W.findIn K (.ref D) "__getattribute__") (some (some (.builtin "BaseException.__getattribute__"))) && (eqO (PySem.W.findIn K (.ref D) "__getattr__") (some none) && (decide (PySem.W.subIn K (.ref D) (.type "BaseException") = some true) &&
  (PySem.W.hasDictIn K D && (eqO (PySem.W.findIn K (.ref D) "__class__") (some (some (.builtin "object.__class__"))) && (eqO (PySem.W.specialIn K (.builtin "object.__class__") "__get__") (some (some (.builtin "getset_descriptor.__get__"))) &&
  (decide (PySem.W.takesIn K (.builtin "object.__class__") = some true) && decide (PySem.W.mroIn K D (.type "object") = some true)))))))
theorem excCB_ok {K : PySem.W.Frag} {D : Addr} (h : excCB K D = true) : ExcC K D := by
  obtain ⟨h1, h⟩ := He.ba h
  obtain ⟨h2, h⟩ := He.ba h
  obtain ⟨h3, h⟩ := He.ba h
  obtain ⟨h4, h⟩ := He.ba h
  obtain ⟨h5, h⟩ := He.ba h
  obtain ⟨h6, h⟩ := He.ba h
  obtain ⟨h7, h8⟩ := He.ba h
  exact ⟨He.eqO_ok h1, He.eqO_ok h2, of_decide_eq_true h3, h4, He.eqO_ok h5, He.eqO_ok h6, of_decide_eq_true h7, of_decide_eq_true h8⟩
def oexB (K : PySem.W.Frag) (C : Addr) : Bool := match K.lookup C with
  | some ⟨.type "type", _, .cls cd, sl⟩ => (match cd.mro, sl.toList with
    | .ref C' :: bm, [_, _, _, _, some (.builtin n), _] => C' == C && n == "ValueError.__new__" && !cd.hasDel && cd.hasDict && PySem.HandSPX.refsVE bm
    | _, _ => false)
  | _ => false
theorem oexB_ok {K : PySem.W.Frag} {C : Addr} (q : oexB K C = true) : ∃ nm q N bs bm sn sub ab col dd k0 k1 k2 k3 k5, K.lookup C = some (excClassObj nm q C N bs bm true sn sub ab col dd k0 k1 k2 k3 k5 "ValueError.__new__") ∧ PySem.HandSPX.refsVE bm = true := by
  unfold oexB at q
  split at q
  · rename_i dd cd sl ho
    split at q
    · rename_i C' bm k0 k1 k2 k3 n k5 hm hs
      simp only [Bool.and_eq_true, beq_iff_eq, Bool.not_eq_true'] at q
      obtain ⟨⟨⟨⟨rfl, rfl⟩, hdel⟩, hdict⟩, hve⟩ := q
      obtain ⟨nm, bs, mro, ns, qn, hd, sn, sub, ab, col, del⟩ := cd
      dsimp only at hm hdel hdict
      subst hm hdel hdict
      have hsl : sl = #[k0, k1, k2, k3, some (.builtin "ValueError.__new__"), k5] := by
        obtain ⟨l⟩ := sl
        simp only at hs
        rw [hs]
      subst hsl
      exact ⟨nm, qn, ns, bs, bm, sn, sub, ab, col, dd, k0, k1, k2, k3, k5, ho, hve⟩
    · cases q
  · cases q
open He in
def msgB (K : PySem.W.Frag) (x : Str) : Bool := PySem.W.excIn K (ga K x) veB "ValueError.__new__" && (PySem.W.keepIn K (.ref (ga K x)) && (decide (PySem.W.subIn K (.ref (ga K x)) (.type "BaseException") = some true) && decide (PySem.W.typeIn K (.ref (ga K x)) = some (.type "type"))))
open He in
def iniB (K : PySem.W.Frag) (x f : Str) : Bool := oexB K (ga K x) && (eqO (PySem.W.findIn K (.ref (ga K x)) "__setattr__") (some (some (.builtin "object.__setattr__"))) && (decide (PySem.W.subIn K (.ref (ga K x)) (.type "BaseException") = some true) && (decide (PySem.W.typeIn K (.ref (ga K x)) = some (.type "type")) &&
  (PySem.W.keepIn K (.ref (ga K x)) && (eqO (PySem.W.findIn K (.ref (ga K x)) "__init__") (some (some (.ref (fAd K (x, some "__init__"))))) && (decide (PySem.W.typeIn K (.ref (fAd K (x, some "__init__"))) = some (.type "function")) && (eqO (PySem.W.findIn K (.ref (ga K x)) f) (some none) && xfB K (ga K x))))))))
theorem msgB_ok {K : PySem.W.Frag} {mg : Str → Option Value} {x : Str} (g : mg x = some (.ref (He.ga K x))) (h : msgB K x = true) : OexN K mg x := by
  obtain ⟨h1, h⟩ := He.ba h
  obtain ⟨h2, h⟩ := He.ba h
  obtain ⟨h3, h4⟩ := He.ba h
  exact ⟨g, h1, h2, of_decide_eq_true h3, of_decide_eq_true h4⟩
theorem iniB_ok {K : PySem.W.Frag} {mg : Str → Option Value} {x f : Str} (g : mg x = some (.ref (He.ga K x))) (h : iniB K x f = true) : OexM K mg x f := by
  obtain ⟨h1, h⟩ := He.ba h
  obtain ⟨h2, h⟩ := He.ba h
  obtain ⟨h3, h⟩ := He.ba h
  obtain ⟨h4, h⟩ := He.ba h
  obtain ⟨h5, h⟩ := He.ba h
  obtain ⟨h6, h⟩ := He.ba h
  obtain ⟨h7, h⟩ := He.ba h
  obtain ⟨h8, h9⟩ := He.ba h
  exact ⟨g, ⟨oexB_ok h1, He.eqO_ok h2, of_decide_eq_true h3, of_decide_eq_true h4, h5⟩, He.eqO_ok h6, of_decide_eq_true h7, He.eqO_ok h8, xfB_ok h9⟩
open He in
def deaB (K : PySem.W.Frag) (D : Addr) : Bool := PySem.W.readsIn K D (.type "type") && (eqO (PySem.W.specialIn K (.ref D) "__getattribute__") (some (some (.builtin "type.__getattribute__"))) && (match PySem.W.findCls K (.ref D) (.type "type") "__init__" with
  | some (.val (.builtin n)) => decide (n = "ValueError.__init__")
  | _ => false))
theorem deaB_ok {K : PySem.W.Frag} {D : Addr} (h : deaB K D = true) : DearC K D := by
  obtain ⟨h1, h⟩ := He.ba h
  obtain ⟨h2, h⟩ := He.ba h
  refine ⟨h1, He.eqO_ok h2, ?_⟩
  split at h
  · rename_i n e
    rw [e, of_decide_eq_true h]
  · cases h
/-- what is told of the classes cs (with init ms: their fields; without ns), D the base of all -/
structure Exs (K : PySem.W.Frag) (mg : Str → Option Value) (D : Str) (cs : List Str) (ms : List (Str × Str)) (ns : List Str) : Prop where
  g : ∀ x ∈ cs, mg x = some (.ref (He.ga K x))
  c : ∀ x ∈ cs, ExcC K (He.ga K x)
  k : ∀ x ∈ cs, ∀ y ∈ cs, PySem.W.kitOne K (.ref (He.ga K x)) (.ref (He.ga K y)) = some (decide (x = y) || decide (y = D))
  m : ∀ x ∈ cs, ∀ y ∈ cs, PySem.W.exmOne K (.ref (He.ga K x)) (.ref (He.ga K y)) = some (decide (x = y) || decide (y = D))
  v : ∀ x ∈ cs, PySem.W.kitOne K (.ref (He.ga K x)) (.type "ValueError") = some true
  n : ∀ y ∈ cs, PySem.W.kitOne K (.type "NoneType") (.ref (He.ga K y)) = some false
  i : ∀ q ∈ ms, OexM K mg q.1 q.2
  s : ∀ x ∈ ns, OexN K mg x
  d : DearC K (He.ga K D)
open He in
def exsB (D : Str) (cs : List Str) (ms : List (Str × Str)) (ns : List Str) (K : PySem.W.Frag) : Bool :=
  (cs.all fun x => eqO (PySem.W.nsIn K mainGlobals x) (some (some (.ref (ga K x))))) && ((cs.all fun x => excCB K (ga K x)) && ((cs.all fun x => cs.all fun y => decide (PySem.W.kitOne K (.ref (ga K x)) (.ref (ga K y)) = some (decide (x = y) || decide (y = D)))) &&
  ((cs.all fun x => cs.all fun y => decide (PySem.W.exmOne K (.ref (ga K x)) (.ref (ga K y)) = some (decide (x = y) || decide (y = D)))) && ((cs.all fun x => decide (PySem.W.kitOne K (.ref (ga K x)) (.type "ValueError") = some true)) &&
  ((cs.all fun x => decide (PySem.W.kitOne K (.type "NoneType") (.ref (ga K x)) = some false)) && ((ms.all fun q => decide (q.1 ∈ cs) && iniB K q.1 q.2) && ((ns.all fun x => decide (x ∈ cs) && msgB K x) && deaB K (ga K D))))))))
theorem exsB_ok {D : Str} {cs : List Str} {ms : List (Str × Str)} {ns : List Str} {K : PySem.W.Frag} {mg : Str → Option Value} {h : Heap} (X : K.In h) (G : h.Ns mainGlobals mg) (c : exsB D cs ms ns K = true) : Exs K mg D cs ms ns := by
  obtain ⟨h1, c⟩ := He.ba c
  obtain ⟨h2, c⟩ := He.ba c
  obtain ⟨h3, c⟩ := He.ba c
  obtain ⟨h4, c⟩ := He.ba c
  obtain ⟨h5, c⟩ := He.ba c
  obtain ⟨h6, c⟩ := He.ba c
  obtain ⟨h7, c⟩ := He.ba c
  obtain ⟨h8, h9⟩ := He.ba c
  have g : ∀ x ∈ cs, mg x = some (.ref (He.ga K x)) := fun x hx => PySem.W.mg_of X G (He.eqO_ok (List.all_eq_true.mp h1 x hx))
  exact ⟨g, fun x hx => excCB_ok (List.all_eq_true.mp h2 x hx), fun x hx y hy => of_decide_eq_true (List.all_eq_true.mp (List.all_eq_true.mp h3 x hx) y hy), fun x hx y hy => of_decide_eq_true (List.all_eq_true.mp (List.all_eq_true.mp h4 x hx) y hy),
    fun x hx => of_decide_eq_true (List.all_eq_true.mp h5 x hx), fun x hx => of_decide_eq_true (List.all_eq_true.mp h6 x hx),
    fun q hq => by
      obtain ⟨a, b⟩ := He.ba (List.all_eq_true.mp h7 q hq)
      exact iniB_ok (g _ (of_decide_eq_true a)) b,
    fun x hx => by
      obtain ⟨a, b⟩ := He.ba (List.all_eq_true.mp h8 x hx)
      exact msgB_ok (g _ (of_decide_eq_true a)) b, deaB_ok h9⟩
/-! the hook: by one more Bool -/
section
open He
abbrev AlE : Type := AlD × Bool
structure SaysE (fa : List Fa) (fn : List DefD) (ex : PySem.W.Frag → Bool) (K : PySem.W.Frag) : Prop where
  d : SaysD fa fn K
  more : ex K = true
def asE (g : Addr → Option Obj) : Nat → List Addr
  | 0 => [mainGlobals, cStatics]
  | n + 1 => growD g (asE g n)
def obsE (n : Nat) (fa : List Fa) (fn : List DefD) (ex : PySem.W.Frag → Bool) (g : Addr → Option Obj) : AlE := (obsD fa fn (frG g (asE g n)), ex (frG g (asE g n)))
def valE (fn : List DefD) : AlE := (valD fn, true)
def hookE (n : Nat) (fa : List Fa) (fn : List DefD) (ex : PySem.W.Frag → Bool) : PySem.W.Hook where
  α := AlE
  obs := fun s => obsE n fa fn ex s.heap.get?
  val := fun _ => valE fn
  says := fun _ h => ∃ K : PySem.W.Frag, K.In h ∧ SaysE fa fn ex K
  of := fun _ _ e => ⟨_, frG_in, ⟨congrArg (fun z : AlE => z.1) e, congrArg (fun z : AlE => z.2) e⟩⟩
  keeps := fun _ _ _ ⟨K, hK, c⟩ k => ⟨K, PySem.W.Frag.In.keeps hK k, c⟩
theorem obsE_eq {n : Nat} {fa : List Fa} {fn : List DefD} {ex : PySem.W.Frag → Bool} {g : Addr → Option Obj} {s : Shared} (h : ∀ a, g a = s.heap.get? a) : obsE n fa fn ex g = (hookE n fa fn ex).obs s := by
  have e : g = s.heap.get? := funext h
  rw [e] <;> rfl
end
/-! ### own __init__s, raises -/
structure Oi (P : Program) (w : World) (K : PySem.W.Frag) (mg : Str → Option Value) (base : Heap) (x f : Str) : Prop where
  ex : ∃ fd : FuncData, FnOk P w K mg base CX0 1 (He.fAd K (x, some "__init__")) fd [("self" : Str), f] (sp_xi K x f) ∧ Binds K fd [("self" : Str), f] []
theorem AtM.oi {P : Program} {w : World} {K : PySem.W.Frag} {mg : Str → Option Value} {base : Heap} {x f q : Str} {st : Stmt} {N : List Str} (F : AtM K (x, some "__init__") "__init__" q st) (S : FnScope N [("self" : Str), f] (defScope st))
    (b : ∀ (kV doc pm : Value) (an : Option Addr) (cdv ct : Value) (us : List Value), us.length = 2 → bindArgs (PySem.W.fnOf "__init__" q (defArgs st) (defBody st) (defScope st) .none kV doc pm an cdv ct) ⟨us, []⟩ = pure ([("self" : Str), f].zip us))
    (hbody : ∀ (cdv : Value) (A : Around) (outer : List Env) (s : Shared) (H : Hp) (vs : List V) (Q : VK) (E : XK), Room 0 (A.deeper (envOfC q (defScope st) s.heap.objs.size (He.fAd K (x, some "__init__")) cdv)) → sp_xi K x f vs H Q E →
      ∃ t, PSs (cxOf CX0 P w K mg base N q (defScope st) (He.fAd K (x, some "__init__")) cdv A outer s H E).nox (defBody st) t ∧ t { nx := fun _ H' => Q .non H', rt := Q } (start N vs) H) : Oi P w K mg base x f := by
  obtain ⟨fd, F⟩ := F.ex
  refine ⟨fd, F.ok S (fun vs H Q E h => ?_) fun cdv A outer s H vs Q E hr h => ?_, ?_⟩
  · obtain ⟨a, y, rfl, _⟩ := h
    rfl
  · obtain ⟨t, h1, h2⟩ := hbody cdv A outer s H vs Q E hr h
    exact ⟨t, h1.nox, h2⟩
  · obtain ⟨oc, od, dV, kV, doc, pm, an, cdv, ct, osl, rfl, _, _, hD, _⟩ := F.ex
    rcases hD with ⟨_, rfl⟩ | ⟨n, _⟩
    · exact .all (b kV doc pm an cdv ct)
    · exact absurd rfl n
def tRaiO (K : PySem.W.Frag) (x f : Str) (W : WX) (ta : TA) : TS := fun _ σ H => tMkO (He.ga K x) (sp_xi K x f) [] ta σ H fun cls d H' => W cls d σ H'
def tRaiN (K : PySem.W.Frag) (x : Str) (W : WX) (ta : TA) : TS := fun _ σ H => ta σ H fun vs H1 => vs.length ≤ sizeLine ∧ W (.ref (He.ga K x)) none σ H1
section
variable {X : Cx} {W : WX} {x f : Str} {j : Nat} {e : Expr} {es : List Expr} {ta : TA} {p pos pos' : Pos}
theorem ps_raiO (K : PySem.W.Frag) (hc : X.calm = true) (tk : Takes X W) (M : OexM K X.mg x f) (F : Oi X.prog X.w K X.mg X.base x f) (hr : Room j X.A) (hj : 2 ≤ j) (hg : Gl X x) (ha : PA X (e :: es) ta) (hK : X.K = K := by rfl)
    (hdb : (x == ("__debug__" : Str)) = false := by decide) (he : starEach (e :: es) X.env = (false, eval e X.env) :: starEach es X.env := by rfl) (hpl : (backTo pos (starEach es X.env)).any (·.1) = false := by rfl) :
    PS X (.Raise (some (.Call (.Name x p) (e :: es) [] pos)) none pos') (tRaiO K x f W ta) := by
  subst hK
  obtain ⟨fd, F1, hb⟩ := F.ex
  exact ps_raise hc tk (pmk_oex M.oe M.fi M.ft F1 (hr.mono hj) hb .nil pass0 hg M.gl ha hdb he hpl)
theorem ps_raiN (K : PySem.W.Frag) (hc : X.calm = true) (tk : Takes X W) (M : OexN K X.mg x) (hg : Gl X x) (ha : PA X (e :: es) ta) (hK : X.K = K := by rfl)
    (hdb : (x == ("__debug__" : Str)) = false := by decide) (he : starEach (e :: es) X.env = (false, eval e X.env) :: starEach es X.env := by rfl) (hpl : (backTo pos (starEach es X.env)).any (·.1) = false := by rfl) :
    PS X (.Raise (some (.Call (.Name x p) (e :: es) [] pos)) none pos') (tRaiN K x W ta) := by
  subst hK
  exact ps_raise hc tk (pmk_ownA PySem.F.excBase_ValueError M.ei M.gl M.kp (raises_own M.bs M.ty) hg ha hdb he hpl)
end
section
variable {K : PySem.W.Frag} {x f : Str} {W : WX} {ta : TA} {D : Ends} {σ : L2.St} {H : Hp}
theorem r_raiN (q : ta σ H fun vs H1 => vs.length ≤ sizeLine ∧ W (.ref (He.ga K x)) none σ H1) : tRaiN K x W ta D σ H := q
theorem r_raiO (q : ta σ H fun vs H1 => vs.length ≤ 1000 ∧ ∀ a, H1 a = none → sp_xi K x f (.ref a :: (vs ++ [])) (upd H1 a (exo a (He.ga K x) none))
  (fun v H2 => v = .non ∧ ∃ (d : Addr) (fs : List (Str × V)), H2 a = some (exo a (He.ga K x) (some d)) ∧ H2 d = some (exd d fs) ∧ H1 d = none ∧ W (.ref (He.ga K x)) (some d) σ (upd (L2.del H2 a) d (.xd fs))) (fun _ _ _ => False)) : tRaiO K x f W ta D σ H := q
theorem r_raiW {y : V} (hf : FmtV y) (q : ∀ d, H d = none → W (.ref (He.ga K x)) (some d) σ (upd H d (.xd [(f, y)]))) :
    [y].length ≤ 1000 ∧ ∀ a, H a = none → sp_xi K x f (.ref a :: ([y] ++ [])) (upd H a (exo a (He.ga K x) none))
      (fun v H2 => v = .non ∧ ∃ (d : Addr) (fs : List (Str × V)), H2 a = some (exo a (He.ga K x) (some d)) ∧ H2 d = some (exd d fs) ∧ H d = none ∧ W (.ref (He.ga K x)) (some d) σ (upd (L2.del H2 a) d (.xd fs))) (fun _ _ _ => False) := by
  refine ⟨by simp, fun a ha => ⟨a, y, rfl, upd_same, hf, fun d hd hda => ⟨rfl, d, [(f, y)], upd_same, ?_, ?_, ?_⟩⟩⟩
  · rw [upd_ne hda, upd_same]
  · rw [upd_ne hda] at hd
    exact hd
  · rw [upd_ne hda] at hd
    have e : upd (L2.del (upd (upd (upd H a (exo a (He.ga K x) none)) d (exd d [(f, y)])) a (exo a (He.ga K x) (some d))) a) d (.xd [(f, y)]) = upd H d (.xd [(f, y)]) := by
      funext b
      by_cases hb : b = d
      · rw [hb, upd_same, upd_same]
      · rw [upd_ne hb, upd_ne hb]
        by_cases h2 : b = a
        · rw [h2, del_same, ha]
        · rw [del_ne h2, upd_ne h2, upd_ne hb, upd_ne h2]
    rw [e]
    exact q d hd
theorem r_raiE {R : XK} {y : V} (hf : FmtV y) (q : ∀ d, H d = none → R (.ref (He.ga K x)) (some d) (upd H d (.xd [(f, y)]))) :
    [y].length ≤ 1000 ∧ ∀ a, H a = none → sp_xi K x f (.ref a :: ([y] ++ [])) (upd H a (exo a (He.ga K x) none))
      (fun v H2 => v = .non ∧ ∃ (d : Addr) (fs : List (Str × V)), H2 a = some (exo a (He.ga K x) (some d)) ∧ H2 d = some (exd d fs) ∧ H d = none ∧ R (.ref (He.ga K x)) (some d) (upd (L2.del H2 a) d (.xd fs))) (fun _ _ _ => False) := by
  refine ⟨by simp, fun a ha => ⟨a, y, rfl, upd_same, hf, fun d hd hda => ⟨rfl, d, [(f, y)], upd_same, ?_, ?_, ?_⟩⟩⟩
  · rw [upd_ne hda, upd_same]
  · rw [upd_ne hda] at hd
    exact hd
  · rw [upd_ne hda] at hd
    have e : upd (L2.del (upd (upd (upd H a (exo a (He.ga K x) none)) d (exd d [(f, y)])) a (exo a (He.ga K x) (some d))) a) d (.xd [(f, y)]) = upd H d (.xd [(f, y)]) := by
      funext b
      by_cases hb : b = d
      · rw [hb, upd_same, upd_same]
      · rw [upd_ne hb, upd_ne hb]
        by_cases h2 : b = a
        · rw [h2, del_same, ha]
        · rw [del_ne h2, upd_ne h2, upd_ne hb, upd_ne h2]
    rw [e]
    exact q d hd
theorem r_ce {sp : Sp} {dvs : List V} {Q : VK} {t : TA} (q : t σ H fun vs H1 => sp (vs ++ dvs) H1 Q (WE W σ)) : tCE sp dvs W t σ H Q := q
theorem r_veI {Q : VK} (q : ta σ H fun vs H1 => ∃ (a C : Addr) (ws : List V), vs = .ref a :: ws ∧ ws.length ≤ 1000 ∧ OexC K C ∧ H1 a = some (exo a C none) ∧ Q .non H1) : tVeI K ta σ H Q := q
theorem r_ost {to te : TE} (q : te σ H fun y H1 => to σ H1 fun x H2 => ∃ a C : Addr, x = .ref a ∧ OexC K C ∧ PySem.W.findIn K (.ref C) f = some none ∧
  ((H2 a = some (exo a C none) ∧ ∀ dx, H2 dx = none → dx ≠ a → D.nx σ (upd (upd H2 dx (exd dx [(f, y)])) a (exo a C (some dx)))) ∨
    ∃ (dx : Addr) (fs : List (Str × V)), H2 a = some (exo a C (some dx)) ∧ H2 dx = some (exd dx fs) ∧ fs.length ≤ 900 ∧ D.nx σ (upd H2 dx (exd dx ((f, y) :: fs))))) : tOst K f to te D σ H := q
theorem r_fmtN {te : TE} {Q : VK} (q : te σ H fun x H1 => rFmtN x H1 Q) : tFmtN te σ H Q := q
theorem r_fmtNV {y : V} {Q : VK} (hf : FmtV y) (q : ∀ z : Str, z.length ≤ 1000 → Q (.str z) H) : rFmtN y H Q := by
  rcases hf with rfl | ⟨z, rfl, hz⟩ | ⟨i, rfl, h0, h1⟩
  · exact .inr (.inr ⟨rfl, q _ (by decide)⟩)
  · exact .inl ⟨z, rfl, Nat.le_trans hz (by decide), q _ hz⟩
  · refine .inr (.inl ⟨i, rfl, ?_, q _ ?_⟩)
    · have h2 : i.natAbs < 10 ^ 300 := by omega
      by_cases hz : i.natAbs = 0
      · rw [hz]
        decide
      · exact (Nat.log2_lt hz).mpr (Nat.lt_trans h2 (by decide +kernel))
    · exact Nat.le_trans (toString_length_le h0 (k := 300) (by decide) h1) (by decide)
theorem r_jsV {ts : List TE} {m x : Str} {QS : Str → Hp → Prop} (hm : m.length ≤ 1000) (hx : x.length ≤ 1000) (q : ∀ z, tJs ts z σ H QS) : ∃ y : Str, V.str x = .str y ∧ (m ++ y).length ≤ sizeLine ∧ tJs ts (m ++ y) σ H QS := ⟨x, rfl, by rw [Z.len_app, sizeLine_eq]; omega, q _⟩
end

/-! ### asking an exception that was kept -/
section
variable {K : PySem.W.Frag} {mg : Str → Option Value} {B : Str} {cs : List Str} {ms : List (Str × Str)} {ns : List Str} {H : Hp} {Q : VK} {a : Addr} {d : Option Addr} {x : Str}
theorem r_isX (b : Bool) {y : Str} (E : Exs K mg B cs ms ns) (hx : x ∈ cs) (hy : y ∈ cs) (ha : H a = some (ExH (.ref (He.ga K x)) d a)) (hd : DictV H d) (q : Q (.bl b) H) (hb : (decide (x = y) || decide (y = B)) = b := by decide +kernel) : rIsiX K [.ref a, .ref (He.ga K y)] H Q :=
  .inr ⟨a, _, d, _, _, _, rfl, ha, hd, E.c x hx, .own _, E.k x hx y hy, hb ▸ q⟩
theorem r_isXv (E : Exs K mg B cs ms ns) (hx : x ∈ cs) (ha : H a = some (ExH (.ref (He.ga K x)) d a)) (hd : DictV H d) (q : Q (.bl true) H) : rIsiX K [.ref a, .ty "ValueError"] H Q :=
  .inr ⟨a, _, d, _, _, _, rfl, ha, hd, E.c x hx, .ty "ValueError", E.v x hx, q⟩
theorem r_isXn {y : Str} (E : Exs K mg B cs ms ns) (hy : y ∈ cs) (q : Q (.bl false) H) : rIsiX K [.non, .ref (He.ga K y)] H Q :=
  .inl ⟨_, _, _, _, _, rfl, .own _, .base .non, E.n y hy, q⟩
theorem kit_any {ys : List Str} (E : Exs K mg B cs ms ns) (hx : x ∈ cs) (hy : ∀ y ∈ ys, y ∈ cs) : PySem.W.kitAny K (.ref (He.ga K x)) (ys.map fun y => Value.ref (He.ga K y)) = some (ys.any fun y => decide (x = y) || decide (y = B)) := by
  induction ys with
  | nil => rfl
  | cons y ys ih =>
    have h1 := E.k x hx y (hy y List.mem_cons_self)
    have h2 := ih fun z hz => hy z (List.mem_cons_of_mem _ hz)
    rw [List.map_cons, List.any_cons]
    cases e : (decide (x = y) || decide (y = B)) with
    | true =>
      rw [e] at h1
      exact kitAny_cons h1 (fun z => nomatch z) fun _ => rfl
    | false =>
      rw [e] at h1
      rw [Bool.false_or]
      exact kitAny_cons h1 (fun _ => h2) fun z => nomatch z
theorem r_isXT (b : Bool) {tp : Addr} (ys : List Str) (E : Exs K mg B cs ms ns) (hx : x ∈ cs) (hy : ∀ y ∈ ys, y ∈ cs) (ha : H a = some (ExH (.ref (He.ga K x)) d a)) (hd : DictV H d) (ht : H tp = some (.tup (ys.map fun y => .ref (He.ga K y)))) (q : Q (.bl b) H) (hb : (ys.any fun y => decide (x = y) || decide (y = B)) = b := by decide +kernel) : rIsiXT K [.ref a, .ref tp] H Q := by
  subst hb
  refine .inr ⟨a, _, d, tp, _, ys.map fun y => Value.ref (He.ga K y), _, rfl, ha, hd, E.c x hx, ht, ?_, kit_any E hx hy, q⟩
  clear ht hy q
  induction ys with
  | nil => exact .nil
  | cons y ys ih => exact .cons (.own _) ih
theorem r_xv0 {te : TE} {n : Str} {σ : L2.St} (q : te σ H fun x H1 => ∃ (a C dd : Addr) (fs : List (Str × V)) (v : V), x = .ref a ∧ H1 a = some (ExH (.ref C) (some dd) a) ∧ H1 dd = some (.xd fs) ∧ fs.lookup n = some v ∧ XfC K C ∧ PySem.W.findIn K (.ref C) n = some none ∧ Q v H1) : tXv K n te σ H Q := q
theorem r_xv {R : V → Prop} {dd : Addr} {f : Str} {v : V} (E : OexM K mg x f) (ha : H a = some (ExH (.ref (He.ga K x)) (some dd) a)) (hd : H dd = some (.xd [(f, v)])) (q : R v) :
    ∃ (a' C dd : Addr) (fs : List (Str × V)) (v : V), V.ref a = .ref a' ∧ H a' = some (ExH (.ref C) (some dd) a') ∧ H dd = some (.xd fs) ∧ fs.lookup f = some v ∧ XfC K C ∧ PySem.W.findIn K (.ref C) f = some none ∧ R v :=
  ⟨a, _, dd, _, v, rfl, ha, hd, by simp [List.lookup], E.xf, E.no, q⟩
end
theorem r_dnewK {σ : L2.St} {H : Hp} {Q : VK} (q : ∀ p H', H p = none → Same H H' → H' p = some (.dK []) → Q (.ref p) H') : tDNewK σ H Q := fun p hp => q p _ hp (Same.new hp) upd_same
end Z

/-! the mathematics of fractions written and read -/
namespace M
open PySem L2 TL SX

/-- the codes of a whole number -/
def intL (n : Int) : List Nat := if n < 0 then 45 :: numL n.natAbs else numL n.natAbs
theorem int_S' (n : Int) : Str.ofString (toString n) = S (intL n) := by
  unfold intL
  cases n with
  | ofNat m =>
    rw [if_neg (by have : (0 : Int) ≤ Int.ofNat m := Int.natCast_nonneg m; omega)]
    exact num_S m
  | negSucc m =>
    rw [if_pos (Int.negSucc_lt_zero m)]
    refine ext_tl ?_
    have e : toString (Int.negSucc m) = "-" ++ toString (m + 1) := rfl
    rw [e, tl_ofString]
    have h2 := tl_num (m + 1)
    have e2 : toString (((m + 1 : Nat) : Int)) = toString (m + 1) := rfl
    rw [e2, tl_ofString] at h2
    rw [String.toList_append, List.map_append, h2]
    rfl
/-- a fraction's codes -/
def fracL (n : Int) (d : Nat) : List Nat := if d = 1 then intL n else intL n ++ 47 :: numL d

def digit (c : Nat) : Bool := decide (48 ≤ c ∧ c ≤ 57)
/-- the number that codes write, at most m of them, no nought ahead -/
def wholeIn (l : List Nat) (m : Nat) : Option Nat := if 1 ≤ l.length ∧ l.length ≤ m ∧ ¬ (1 < l.length ∧ l.head? = some 48) ∧ l.all digit = true then some (NumText.digitsVal l) else none
theorem fig_mem (c : Nat) : decide (c ∈ (Str.ofString "0123456789").cps.toList) = digit c := by
  have e : (Str.ofString "0123456789").cps.toList = [48, 49, 50, 51, 52, 53, 54, 55, 56, 57] := by decide +kernel
  rw [e]
  unfold digit
  rw [decide_eq_decide]
  simp only [List.mem_cons, List.not_mem_nil, or_false]
  omega
theorem numL_head : ∀ (n : Nat), 10 ≤ n → (numL n).head? ≠ some 48 := by
  intro n
  induction n using Nat.strongRecOn with
  | _ n ih =>
    intro h
    rw [numL_step h]
    by_cases h2 : n / 10 < 10
    · rw [numL_lt h2]
      intro z
      have : 48 + n / 10 = 48 := Option.some.inj z
      omega
    · intro z
      refine ih (n / 10) (by omega) (by omega) ?_
      cases e : numL (n / 10) with
      | nil => exact absurd e (numL_ne _)
      | cons a r =>
        rw [e] at z
        exact z
theorem numL_all (n : Nat) : (numL n).all digit = true := by
  rw [List.all_eq_true]
  intro c hc
  have := numL_digits n c hc
  exact decide_eq_true this
theorem wholeIn_num {n m : Nat} (h : (numL n).length ≤ m) : wholeIn (numL n) m = some n := by
  unfold wholeIn
  rw [if_pos, numL_val]
  refine ⟨?_, h, ?_, numL_all n⟩
  · cases e : numL n with
    | nil => exact absurd e (numL_ne _)
    | cons a r => simp
  · rintro ⟨h1, h2⟩
    by_cases h3 : n < 10
    · rw [numL_lt h3] at h1
      simp at h1
    · exact numL_head n (by omega) h2
def sgn (neg : Bool) (a : Nat) : Int := if neg then -(a : Int) else a
/-- the fraction that codes write -/
def fracOf (neg : Bool) (nums : List (Option Nat)) : Option (Int × Nat) := match nums with
  | [some a] => if neg = true ∧ a = 0 then none else some (sgn neg a, 1)
  | [some a, some b] => if b < 2 ∨ neg = true ∧ a = 0 then none else if Nat.gcd b a = 1 then some (sgn neg a, b) else none
  | _ => none
def isNeg (l : List Nat) : Bool := decide (l.head? = some 45)
def figs (l : List Nat) : List Nat := if isNeg l = true then l.tail else l
def numsIn (l : List Nat) (m : Nat) : List (Option Nat) := (spl [47] 0 [] (figs l)).map fun p => wholeIn p m
def fracIn (l : List Nat) (m : Nat) : Option (Int × Nat) := fracOf (isNeg l) (numsIn l m)
theorem intL_neg (n : Int) : isNeg (intL n) = decide (n < 0) := by
  unfold isNeg intL
  rw [decide_eq_decide]
  by_cases h : n < 0
  · rw [if_pos h]
    simp [h]
  · rw [if_neg h]
    constructor
    · intro z
      have hm : 45 ∈ numL n.natAbs := by
        cases e : numL n.natAbs with
        | nil =>
          rw [e] at z
          cases z
        | cons a r =>
          rw [e] at z
          have : a = 45 := Option.some.inj z
          rw [this]
          exact List.mem_cons_self
      exact absurd hm (numL_free (by omega))
    · intro z
      exact absurd z h
theorem intL_figs (n : Int) : figs (intL n) = numL n.natAbs := by
  unfold figs
  rw [intL_neg]
  unfold intL
  by_cases h : n < 0
  · rw [if_pos (decide_eq_true h), if_pos h]
    rfl
  · rw [if_neg (by simpa using h), if_neg h]
theorem isNeg_app {l r : List Nat} (h : l ≠ []) : isNeg (l ++ r) = isNeg l := by
  cases l with
  | nil => exact absurd rfl h
  | cons a l => rfl
theorem figs_app {l r : List Nat} (h : l ≠ []) : figs (l ++ r) = figs l ++ r := by
  unfold figs
  rw [isNeg_app h]
  by_cases c : isNeg l = true
  · rw [if_pos c, if_pos c]
    cases l with
    | nil => exact absurd rfl h
    | cons a l => rfl
  · rw [if_neg c, if_neg c]
theorem intL_ne (n : Int) : intL n ≠ [] := by
  unfold intL
  split
  · simp
  · exact numL_ne _
theorem sgn_abs (n : Int) : sgn (decide (n < 0)) n.natAbs = n := by
  unfold sgn
  by_cases h : n < 0
  · rw [if_pos (decide_eq_true h)]
    omega
  · rw [if_neg (by simpa using h)]
    omega
/-- what is written is read -/
theorem frac_back {n : Int} {d m : Nat} (hn : (numL n.natAbs).length ≤ m) (hd : (numL d).length ≤ m) (h0 : 0 < d) (hg : Nat.gcd d n.natAbs = 1) : fracIn (fracL n d) m = some (n, d) := by
  unfold fracIn fracL numsIn
  by_cases h1 : d = 1
  · rw [if_pos h1, intL_neg, intL_figs, spl_last1 (numL_free (by omega))]
    show fracOf _ [wholeIn ([] ++ numL n.natAbs) m] = _
    rw [List.nil_append, wholeIn_num hn]
    show (if _ then _ else _) = _
    rw [if_neg, sgn_abs, h1]
    rintro ⟨a, b⟩
    have := of_decide_eq_true a
    omega
  · rw [if_neg h1, isNeg_app (intL_ne n), intL_neg, figs_app (intL_ne n), intL_figs]
    have e : spl [47] 0 [] (numL n.natAbs ++ 47 :: numL d) = [numL n.natAbs, numL d] := by
      have a := spl_part1 (s := 47) (S := []) (p := numL n.natAbs) (rest := numL d) (acc := []) (numL_free (by omega))
      rw [spl_last1 (numL_free (by omega))] at a
      simpa using a
    rw [e]
    show fracOf _ [wholeIn (numL n.natAbs) m, wholeIn (numL d) m] = _
    rw [wholeIn_num hn, wholeIn_num hd]
    show (if _ then _ else _) = _
    rw [if_neg, if_pos hg, sgn_abs]
    rintro (a | ⟨a, b⟩)
    · omega
    · have := of_decide_eq_true a
      omega
theorem len60 {n : Nat} (h : n < 10 ^ 60) : (numL n).length ≤ 60 := numL_len (by decide) h
/-! the greatest common divisor, by steps -/
theorem gcd_step {x y : Nat} (h : 0 < y) : Nat.gcd y (x % y) = Nat.gcd x y := by
  rw [Nat.gcd_comm x y, Nat.gcd_rec y x, Nat.gcd_comm]
theorem lowest_gcd {t b : Nat} (h : 0 < b) : Nat.gcd (b / Nat.gcd t b) (t / Nat.gcd t b) = 1 := by
  have g0 : 0 < Nat.gcd t b := Nat.gcd_pos_of_pos_right _ h
  have h2 := Nat.gcd_div (Nat.gcd_dvd_right t b) (Nat.gcd_dvd_left t b)
  rw [Nat.gcd_comm b t, Nat.div_self g0] at h2
  exact h2
/-! figures, from the end -/
theorem fig_at {d : Nat} (h : d < 10) : atI (Str.ofString "0123456789").cps.toList (d : Int) = some (48 + d) := by
  have e : (Str.ofString "0123456789").cps.toList = [48, 49, 50, 51, 52, 53, 54, 55, 56, 57] := by decide +kernel
  rw [e]
  refine atI_nat ?_
  match d, h with
  | 0, _ => rfl
  | 1, _ => rfl
  | 2, _ => rfl
  | 3, _ => rfl
  | 4, _ => rfl
  | 5, _ => rfl
  | 6, _ => rfl
  | 7, _ => rfl
  | 8, _ => rfl
  | 9, _ => rfl
/-- texts by codes -/
theorem S_app (a b : List Nat) : S a ++ S b = S (a ++ b) := ext_tl (by rw [tl_append])
theorem S_len (a : List Nat) : (S a).length = a.length := by
  show a.toArray.size = a.length
  simp
theorem S_inj {a b : List Nat} (h : S a = S b) : a = b := by
  have := congrArg tl h
  exact this
theorem S_tl (z : Str) : z = S (tl z) := (mk_tl z).symm
end M

/-! texts that are no fractions -/
namespace M
open PySem L2 TL SX

abbrev P (l : List Nat) : List (List Nat) := spl [47] 0 [] l
theorem P1 {a : List Nat} (h : 47 ∉ a) : P a = [a] := by
  show spl [47] 0 [] a = _
  rw [spl_last1 h]
  rfl
theorem P2 {a r : List Nat} (h : 47 ∉ a) : P (a ++ 47 :: r) = a :: P r := by
  have e := spl_part1 (s := 47) (S := []) (p := a) (rest := r) (acc := []) h
  simpa using e
theorem fo_none {neg : Bool} {ns : List (Option Nat)} (h : none ∈ ns) : fracOf neg ns = none := by
  match ns, h with
  | [none], _ => rfl
  | [none, none], _ => rfl
  | [none, some _], _ => rfl
  | [some _, none], _ => rfl
  | [some _], h => simp at h
  | [some _, some _], h => simp at h
  | a :: b :: _ :: _, _ => cases a <;> cases b <;> rfl
theorem no1 {l a : List Nat} (hf : figs l = a) (h : 47 ∉ a) (hb : wholeIn a 60 = none) : fracIn l 60 = none := by
  unfold fracIn numsIn
  rw [hf, show spl [47] 0 [] a = [a] from P1 h]
  refine fo_none ?_
  simp [hb]
theorem no2a {l a r : List Nat} (hf : figs l = a ++ 47 :: r) (h : 47 ∉ a) (hb : wholeIn a 60 = none) : fracIn l 60 = none := by
  unfold fracIn numsIn
  rw [hf, show spl [47] 0 [] (a ++ 47 :: r) = a :: P r from P2 h]
  refine fo_none ?_
  simp [hb]
theorem no2b {l a b : List Nat} (hf : figs l = a ++ 47 :: b) (h : 47 ∉ a) (h2 : 47 ∉ b) (hb : wholeIn b 60 = none) : fracIn l 60 = none := by
  unfold fracIn numsIn
  rw [hf, show spl [47] 0 [] (a ++ 47 :: b) = a :: P b from P2 h, P1 h2]
  refine fo_none ?_
  simp [hb]
theorem no3 {l a b c : List Nat} (hf : figs l = a ++ 47 :: (b ++ 47 :: c)) (h : 47 ∉ a) (h2 : 47 ∉ b) (h3 : 47 ∉ c) : fracIn l 60 = none := by
  unfold fracIn numsIn
  rw [hf, show spl [47] 0 [] (a ++ 47 :: (b ++ 47 :: c)) = a :: P (b ++ 47 :: c) from P2 h, P2 h2, P1 h3]
  show fracOf _ [wholeIn a 60, wholeIn b 60, wholeIn c 60] = none
  cases wholeIn a 60 <;> cases wholeIn b 60 <;> rfl
theorem nov {l : List Nat} {x y : Nat} (hf : figs l = numL x ++ 47 :: numL y) (hx : x < 10 ^ 60) (hy : y < 10 ^ 60) (h : y < 2 ∨ (isNeg l = true ∧ x = 0) ∨ Nat.gcd y x ≠ 1) : fracIn l 60 = none := by
  unfold fracIn numsIn
  rw [hf, show spl [47] 0 [] (numL x ++ 47 :: numL y) = numL x :: P (numL y) from P2 (numL_free (by omega)), P1 (numL_free (by omega))]
  show fracOf _ [wholeIn (numL x) 60, wholeIn (numL y) 60] = none
  rw [wholeIn_num (len60 hx), wholeIn_num (len60 hy)]
  show (if _ then none else if _ then _ else none) = none
  split
  · rfl
  · rename_i h2
    split
    · rename_i h3
      rcases h with h | h | h
      · exact absurd (Or.inl h) h2
      · exact absurd (Or.inr h) h2
      · exact absurd h3 h
    · rfl
theorem noz {l : List Nat} (hf : figs l = [48]) (hn : isNeg l = true) : fracIn l 60 = none := by
  unfold fracIn numsIn
  rw [hf, hn]
  decide +kernel
/-! parts that are no numbers -/
theorem wb {p : List Nat} {m c : Nat} (h : c ∈ p) (hc : digit c = false) : wholeIn p m = none := by
  unfold wholeIn
  rw [if_neg]
  rintro ⟨_, _, _, h4⟩
  have := List.all_eq_true.mp h4 c h
  rw [hc] at this
  cases this
theorem wz {r : List Nat} {m : Nat} (h : r ≠ []) : wholeIn (48 :: r) m = none := by
  unfold wholeIn
  rw [if_neg]
  rintro ⟨_, _, h3, _⟩
  refine h3 ⟨?_, rfl⟩
  cases r with
  | nil => exact absurd rfl h
  | cons a r => simp
theorem we {m : Nat} : wholeIn [] m = none := rfl
theorem wl {p : List Nat} (h : 60 < p.length) : wholeIn p 60 = none := by
  unfold wholeIn
  rw [if_neg]
  rintro ⟨_, h2, _⟩
  omega
/-! the sign -/
theorem numL_neg (t : Nat) (r : List Nat) : isNeg (numL t ++ r) = false := by
  have h := numL_free (n := t) (s := 45) (by omega)
  unfold isNeg
  cases e : numL t with
  | nil => exact absurd e (numL_ne _)
  | cons a q =>
    rw [e] at h
    have : a ≠ 45 := fun z => h (by rw [z]; exact List.mem_cons_self)
    simpa using this
theorem figs_num (t : Nat) (r : List Nat) : figs (numL t ++ r) = numL t ++ r := by
  unfold figs
  rw [numL_neg]
  rfl
theorem figs_num0 (t : Nat) : figs (numL t) = numL t := by
  have := figs_num t []
  rwa [List.append_nil] at this
theorem figs_c {c : Nat} {r : List Nat} (h : c ≠ 45) : figs (c :: r) = c :: r := by
  unfold figs isNeg
  simp [h]
theorem figs_m {r : List Nat} : figs (45 :: r) = r := rfl
theorem n47 (t : Nat) : 47 ∉ numL t := numL_free (by omega)
/-- no fraction, and short -/
def Nf (z : Str) : Prop := fracIn (tl z) 60 = none ∧ (tl z).length ≤ 3000
theorem nf {z : Str} {l : List Nat} (e : tl z = l) (h : fracIn l 60 = none) (hl : l.length ≤ 3000) : Nf z := by
  unfold Nf
  rw [e]
  exact ⟨h, hl⟩
theorem tl_S (l : List Nat) : tl (S l) = l := rfl
theorem n0 : numL 0 = [48] := rfl
theorem n1 : numL 1 = [49] := rfl
theorem num_len (t : Nat) (h : t < 10 ^ 60) : (numL t).length ≤ 60 := len60 h
local macro_rules | `(tactic| walk_at "tz") => `(tactic| (simp only [tl_append, tl_S, tl_ofString, List.append_assoc]; rfl))
abbrev oc (s : String) : Str := Str.ofString s
theorem gk (k : Nat) (hk : 2 ≤ k) (x y : Nat) {p q : Nat} (hp : p = k * x) (hq : q = k * y) : Nat.gcd q p ≠ 1 := by
  rw [hp, hq, Nat.gcd_mul_left]
  intro h
  have := Nat.eq_one_of_mul_eq_one_right h
  omega
def bads (t b : Nat) : List Str := [oc "0" ++ S (numL t), oc "+" ++ S (numL t), oc "--" ++ S (numL t), oc "-0", oc " " ++ S (numL t), S (numL t) ++ oc " ", S (numL t) ++ oc "\n", oc "\t" ++ S (numL t), S (numL t) ++ oc "/0", S (numL t) ++ oc "/1", S (numL t) ++ oc "/", oc "/" ++ S (numL b), oc "", oc "-", oc "/", S (numL t) ++ oc "/" ++ S (numL b) ++ oc "/7", S (numL t) ++ oc "/" ++ S (numL b) ++ oc "/", S (numL t) ++ oc "/-" ++ S (numL b), S (numL t) ++ oc "//" ++ S (numL b), S (numL t) ++ oc "/0" ++ S (numL b), oc "0" ++ (S (numL t) ++ oc "/" ++ S (numL b)), oc "+" ++ (S (numL t) ++ oc "/" ++ S (numL b)), oc "-0/" ++ S (numL b), oc "0/" ++ S (numL b), S (numL t) ++ oc " /" ++ S (numL b), S (numL t) ++ oc "/ " ++ S (numL b), S (numL (6 * t + 6)) ++ oc "/" ++ S (numL (6 * b + 6)), S (numL t) ++ oc ".0", S (numL t) ++ oc "e1", oc "a", oc "1" ++ Txt.mul (oc "0") 60, oc "1/1" ++ Txt.mul (oc "0") 60, oc "1_0", oc "-/" ++ S (numL b), oc "-" ++ S (numL (6 * t + 6)) ++ oc "/" ++ S (numL (6 * b + 6)), oc "-" ++ S (numL t) ++ oc "/1", oc "-0/1", S (numL (35 * t + 35)) ++ oc "/" ++ S (numL (35 * b + 35)), oc "-1" ++ Txt.mul (oc "0") 60, oc "1" ++ Txt.mul (oc "0") 60 ++ oc "/7"]
theorem bad_0 {t b : Nat} (h6 : t < 10 ^ 60) (ht : t < 10 ^ 58) (hb : 2 ≤ b) (h8 : b < 10 ^ 60) (hb2 : b < 10 ^ 58 + 2) (h1 : (numL t).length ≤ 60) (h2 : (numL b).length ≤ 60) (h3 : (numL (6 * t + 6)).length ≤ 60) (h4 : (numL (6 * b + 6)).length ≤ 60) (h5 : (numL (35 * t + 35)).length ≤ 60) (h7 : (numL (35 * b + 35)).length ≤ 60) (ne : numL t ≠ []) (nb : numL b ≠ []) (f47 : 47 ∉ numL t) (g47 : 47 ∉ numL b) : Nf (oc "0" ++ S (numL t)) :=
  nf (l := 48 :: numL t) (by walk_at "tz") (no1 (figs_c (by decide)) (by simp [f47]) (wz ne)) (by simp [n0, n1]; omega)
theorem bad_1 {t b : Nat} (h6 : t < 10 ^ 60) (ht : t < 10 ^ 58) (hb : 2 ≤ b) (h8 : b < 10 ^ 60) (hb2 : b < 10 ^ 58 + 2) (h1 : (numL t).length ≤ 60) (h2 : (numL b).length ≤ 60) (h3 : (numL (6 * t + 6)).length ≤ 60) (h4 : (numL (6 * b + 6)).length ≤ 60) (h5 : (numL (35 * t + 35)).length ≤ 60) (h7 : (numL (35 * b + 35)).length ≤ 60) (ne : numL t ≠ []) (nb : numL b ≠ []) (f47 : 47 ∉ numL t) (g47 : 47 ∉ numL b) : Nf (oc "+" ++ S (numL t)) :=
  nf (l := 43 :: numL t) (by walk_at "tz") (no1 (figs_c (by decide)) (by simp [f47]) (wb List.mem_cons_self (by decide))) (by simp [n0, n1]; omega)
theorem bad_2 {t b : Nat} (h6 : t < 10 ^ 60) (ht : t < 10 ^ 58) (hb : 2 ≤ b) (h8 : b < 10 ^ 60) (hb2 : b < 10 ^ 58 + 2) (h1 : (numL t).length ≤ 60) (h2 : (numL b).length ≤ 60) (h3 : (numL (6 * t + 6)).length ≤ 60) (h4 : (numL (6 * b + 6)).length ≤ 60) (h5 : (numL (35 * t + 35)).length ≤ 60) (h7 : (numL (35 * b + 35)).length ≤ 60) (ne : numL t ≠ []) (nb : numL b ≠ []) (f47 : 47 ∉ numL t) (g47 : 47 ∉ numL b) : Nf (oc "--" ++ S (numL t)) :=
  nf (l := 45 :: 45 :: numL t) (by walk_at "tz") (no1 figs_m (by simp [f47]) (wb List.mem_cons_self (by decide))) (by simp [n0, n1]; omega)
theorem bad_3 {t b : Nat} (h6 : t < 10 ^ 60) (ht : t < 10 ^ 58) (hb : 2 ≤ b) (h8 : b < 10 ^ 60) (hb2 : b < 10 ^ 58 + 2) (h1 : (numL t).length ≤ 60) (h2 : (numL b).length ≤ 60) (h3 : (numL (6 * t + 6)).length ≤ 60) (h4 : (numL (6 * b + 6)).length ≤ 60) (h5 : (numL (35 * t + 35)).length ≤ 60) (h7 : (numL (35 * b + 35)).length ≤ 60) (ne : numL t ≠ []) (nb : numL b ≠ []) (f47 : 47 ∉ numL t) (g47 : 47 ∉ numL b) : Nf (oc "-0") :=
  nf (l := [45, 48]) (by decide +kernel) (noz rfl rfl) (by decide +kernel)
theorem bad_4 {t b : Nat} (h6 : t < 10 ^ 60) (ht : t < 10 ^ 58) (hb : 2 ≤ b) (h8 : b < 10 ^ 60) (hb2 : b < 10 ^ 58 + 2) (h1 : (numL t).length ≤ 60) (h2 : (numL b).length ≤ 60) (h3 : (numL (6 * t + 6)).length ≤ 60) (h4 : (numL (6 * b + 6)).length ≤ 60) (h5 : (numL (35 * t + 35)).length ≤ 60) (h7 : (numL (35 * b + 35)).length ≤ 60) (ne : numL t ≠ []) (nb : numL b ≠ []) (f47 : 47 ∉ numL t) (g47 : 47 ∉ numL b) : Nf (oc " " ++ S (numL t)) :=
  nf (l := 32 :: numL t) (by walk_at "tz") (no1 (figs_c (by decide)) (by simp [f47]) (wb List.mem_cons_self (by decide))) (by simp [n0, n1]; omega)
theorem bad_5 {t b : Nat} (h6 : t < 10 ^ 60) (ht : t < 10 ^ 58) (hb : 2 ≤ b) (h8 : b < 10 ^ 60) (hb2 : b < 10 ^ 58 + 2) (h1 : (numL t).length ≤ 60) (h2 : (numL b).length ≤ 60) (h3 : (numL (6 * t + 6)).length ≤ 60) (h4 : (numL (6 * b + 6)).length ≤ 60) (h5 : (numL (35 * t + 35)).length ≤ 60) (h7 : (numL (35 * b + 35)).length ≤ 60) (ne : numL t ≠ []) (nb : numL b ≠ []) (f47 : 47 ∉ numL t) (g47 : 47 ∉ numL b) : Nf (S (numL t) ++ oc " ") :=
  nf (l := numL t ++ [32]) (by walk_at "tz") (no1 (figs_num _ _) (by simp [f47]) (wb (c := 32) (by simp) (by decide))) (by simp [n0, n1]; omega)
theorem bad_6 {t b : Nat} (h6 : t < 10 ^ 60) (ht : t < 10 ^ 58) (hb : 2 ≤ b) (h8 : b < 10 ^ 60) (hb2 : b < 10 ^ 58 + 2) (h1 : (numL t).length ≤ 60) (h2 : (numL b).length ≤ 60) (h3 : (numL (6 * t + 6)).length ≤ 60) (h4 : (numL (6 * b + 6)).length ≤ 60) (h5 : (numL (35 * t + 35)).length ≤ 60) (h7 : (numL (35 * b + 35)).length ≤ 60) (ne : numL t ≠ []) (nb : numL b ≠ []) (f47 : 47 ∉ numL t) (g47 : 47 ∉ numL b) : Nf (S (numL t) ++ oc "\n") :=
  nf (l := numL t ++ [10]) (by walk_at "tz") (no1 (figs_num _ _) (by simp [f47]) (wb (c := 10) (by simp) (by decide))) (by simp [n0, n1]; omega)
theorem bad_7 {t b : Nat} (h6 : t < 10 ^ 60) (ht : t < 10 ^ 58) (hb : 2 ≤ b) (h8 : b < 10 ^ 60) (hb2 : b < 10 ^ 58 + 2) (h1 : (numL t).length ≤ 60) (h2 : (numL b).length ≤ 60) (h3 : (numL (6 * t + 6)).length ≤ 60) (h4 : (numL (6 * b + 6)).length ≤ 60) (h5 : (numL (35 * t + 35)).length ≤ 60) (h7 : (numL (35 * b + 35)).length ≤ 60) (ne : numL t ≠ []) (nb : numL b ≠ []) (f47 : 47 ∉ numL t) (g47 : 47 ∉ numL b) : Nf (oc "\t" ++ S (numL t)) :=
  nf (l := 9 :: numL t) (by walk_at "tz") (no1 (figs_c (by decide)) (by simp [f47]) (wb List.mem_cons_self (by decide))) (by simp [n0, n1]; omega)
theorem bad_8 {t b : Nat} (h6 : t < 10 ^ 60) (ht : t < 10 ^ 58) (hb : 2 ≤ b) (h8 : b < 10 ^ 60) (hb2 : b < 10 ^ 58 + 2) (h1 : (numL t).length ≤ 60) (h2 : (numL b).length ≤ 60) (h3 : (numL (6 * t + 6)).length ≤ 60) (h4 : (numL (6 * b + 6)).length ≤ 60) (h5 : (numL (35 * t + 35)).length ≤ 60) (h7 : (numL (35 * b + 35)).length ≤ 60) (ne : numL t ≠ []) (nb : numL b ≠ []) (f47 : 47 ∉ numL t) (g47 : 47 ∉ numL b) : Nf (S (numL t) ++ oc "/0") :=
  nf (l := numL t ++ 47 :: numL 0) (by walk_at "tz") (nov (figs_num _ _) h6 (by decide) (.inl (by decide))) (by simp [n0, n1]; omega)
theorem bad_9 {t b : Nat} (h6 : t < 10 ^ 60) (ht : t < 10 ^ 58) (hb : 2 ≤ b) (h8 : b < 10 ^ 60) (hb2 : b < 10 ^ 58 + 2) (h1 : (numL t).length ≤ 60) (h2 : (numL b).length ≤ 60) (h3 : (numL (6 * t + 6)).length ≤ 60) (h4 : (numL (6 * b + 6)).length ≤ 60) (h5 : (numL (35 * t + 35)).length ≤ 60) (h7 : (numL (35 * b + 35)).length ≤ 60) (ne : numL t ≠ []) (nb : numL b ≠ []) (f47 : 47 ∉ numL t) (g47 : 47 ∉ numL b) : Nf (S (numL t) ++ oc "/1") :=
  nf (l := numL t ++ 47 :: numL 1) (by walk_at "tz") (nov (figs_num _ _) h6 (by decide) (.inl (by decide))) (by simp [n0, n1]; omega)
theorem bad_10 {t b : Nat} (h6 : t < 10 ^ 60) (ht : t < 10 ^ 58) (hb : 2 ≤ b) (h8 : b < 10 ^ 60) (hb2 : b < 10 ^ 58 + 2) (h1 : (numL t).length ≤ 60) (h2 : (numL b).length ≤ 60) (h3 : (numL (6 * t + 6)).length ≤ 60) (h4 : (numL (6 * b + 6)).length ≤ 60) (h5 : (numL (35 * t + 35)).length ≤ 60) (h7 : (numL (35 * b + 35)).length ≤ 60) (ne : numL t ≠ []) (nb : numL b ≠ []) (f47 : 47 ∉ numL t) (g47 : 47 ∉ numL b) : Nf (S (numL t) ++ oc "/") :=
  nf (l := numL t ++ 47 :: []) (by walk_at "tz") (no2b (figs_num _ _) f47 (by simp) we) (by simp [n0, n1]; omega)
theorem bad_11 {t b : Nat} (h6 : t < 10 ^ 60) (ht : t < 10 ^ 58) (hb : 2 ≤ b) (h8 : b < 10 ^ 60) (hb2 : b < 10 ^ 58 + 2) (h1 : (numL t).length ≤ 60) (h2 : (numL b).length ≤ 60) (h3 : (numL (6 * t + 6)).length ≤ 60) (h4 : (numL (6 * b + 6)).length ≤ 60) (h5 : (numL (35 * t + 35)).length ≤ 60) (h7 : (numL (35 * b + 35)).length ≤ 60) (ne : numL t ≠ []) (nb : numL b ≠ []) (f47 : 47 ∉ numL t) (g47 : 47 ∉ numL b) : Nf (oc "/" ++ S (numL b)) :=
  nf (l := [] ++ 47 :: numL b) (by walk_at "tz") (no2a (figs_c (by decide)) (by simp) we) (by simp [n0, n1]; omega)
theorem bad_12 {t b : Nat} (h6 : t < 10 ^ 60) (ht : t < 10 ^ 58) (hb : 2 ≤ b) (h8 : b < 10 ^ 60) (hb2 : b < 10 ^ 58 + 2) (h1 : (numL t).length ≤ 60) (h2 : (numL b).length ≤ 60) (h3 : (numL (6 * t + 6)).length ≤ 60) (h4 : (numL (6 * b + 6)).length ≤ 60) (h5 : (numL (35 * t + 35)).length ≤ 60) (h7 : (numL (35 * b + 35)).length ≤ 60) (ne : numL t ≠ []) (nb : numL b ≠ []) (f47 : 47 ∉ numL t) (g47 : 47 ∉ numL b) : Nf (oc "") :=
  nf (l := []) (by decide +kernel) (no1 rfl (by decide) we) (by decide +kernel)
theorem bad_13 {t b : Nat} (h6 : t < 10 ^ 60) (ht : t < 10 ^ 58) (hb : 2 ≤ b) (h8 : b < 10 ^ 60) (hb2 : b < 10 ^ 58 + 2) (h1 : (numL t).length ≤ 60) (h2 : (numL b).length ≤ 60) (h3 : (numL (6 * t + 6)).length ≤ 60) (h4 : (numL (6 * b + 6)).length ≤ 60) (h5 : (numL (35 * t + 35)).length ≤ 60) (h7 : (numL (35 * b + 35)).length ≤ 60) (ne : numL t ≠ []) (nb : numL b ≠ []) (f47 : 47 ∉ numL t) (g47 : 47 ∉ numL b) : Nf (oc "-") :=
  nf (l := [45]) (by decide +kernel) (no1 (a := []) rfl (by decide) we) (by decide +kernel)
theorem bad_14 {t b : Nat} (h6 : t < 10 ^ 60) (ht : t < 10 ^ 58) (hb : 2 ≤ b) (h8 : b < 10 ^ 60) (hb2 : b < 10 ^ 58 + 2) (h1 : (numL t).length ≤ 60) (h2 : (numL b).length ≤ 60) (h3 : (numL (6 * t + 6)).length ≤ 60) (h4 : (numL (6 * b + 6)).length ≤ 60) (h5 : (numL (35 * t + 35)).length ≤ 60) (h7 : (numL (35 * b + 35)).length ≤ 60) (ne : numL t ≠ []) (nb : numL b ≠ []) (f47 : 47 ∉ numL t) (g47 : 47 ∉ numL b) : Nf (oc "/") :=
  nf (l := [] ++ 47 :: []) (by decide +kernel) (no2a (a := []) (r := []) rfl (by decide) we) (by decide +kernel)
theorem bad_15 {t b : Nat} (h6 : t < 10 ^ 60) (ht : t < 10 ^ 58) (hb : 2 ≤ b) (h8 : b < 10 ^ 60) (hb2 : b < 10 ^ 58 + 2) (h1 : (numL t).length ≤ 60) (h2 : (numL b).length ≤ 60) (h3 : (numL (6 * t + 6)).length ≤ 60) (h4 : (numL (6 * b + 6)).length ≤ 60) (h5 : (numL (35 * t + 35)).length ≤ 60) (h7 : (numL (35 * b + 35)).length ≤ 60) (ne : numL t ≠ []) (nb : numL b ≠ []) (f47 : 47 ∉ numL t) (g47 : 47 ∉ numL b) : Nf (S (numL t) ++ oc "/" ++ S (numL b) ++ oc "/7") :=
  nf (l := numL t ++ 47 :: (numL b ++ 47 :: [55])) (by walk_at "tz") (no3 (figs_num _ _) f47 g47 (by decide)) (by simp [n0, n1]; omega)
theorem bad_16 {t b : Nat} (h6 : t < 10 ^ 60) (ht : t < 10 ^ 58) (hb : 2 ≤ b) (h8 : b < 10 ^ 60) (hb2 : b < 10 ^ 58 + 2) (h1 : (numL t).length ≤ 60) (h2 : (numL b).length ≤ 60) (h3 : (numL (6 * t + 6)).length ≤ 60) (h4 : (numL (6 * b + 6)).length ≤ 60) (h5 : (numL (35 * t + 35)).length ≤ 60) (h7 : (numL (35 * b + 35)).length ≤ 60) (ne : numL t ≠ []) (nb : numL b ≠ []) (f47 : 47 ∉ numL t) (g47 : 47 ∉ numL b) : Nf (S (numL t) ++ oc "/" ++ S (numL b) ++ oc "/") :=
  nf (l := numL t ++ 47 :: (numL b ++ 47 :: [])) (by walk_at "tz") (no3 (figs_num _ _) f47 g47 (by simp)) (by simp [n0, n1]; omega)
theorem bad_17 {t b : Nat} (h6 : t < 10 ^ 60) (ht : t < 10 ^ 58) (hb : 2 ≤ b) (h8 : b < 10 ^ 60) (hb2 : b < 10 ^ 58 + 2) (h1 : (numL t).length ≤ 60) (h2 : (numL b).length ≤ 60) (h3 : (numL (6 * t + 6)).length ≤ 60) (h4 : (numL (6 * b + 6)).length ≤ 60) (h5 : (numL (35 * t + 35)).length ≤ 60) (h7 : (numL (35 * b + 35)).length ≤ 60) (ne : numL t ≠ []) (nb : numL b ≠ []) (f47 : 47 ∉ numL t) (g47 : 47 ∉ numL b) : Nf (S (numL t) ++ oc "/-" ++ S (numL b)) :=
  nf (l := numL t ++ 47 :: (45 :: numL b)) (by walk_at "tz") (no2b (figs_num _ _) f47 (by simp [g47]) (wb List.mem_cons_self (by decide))) (by simp [n0, n1]; omega)
theorem bad_18 {t b : Nat} (h6 : t < 10 ^ 60) (ht : t < 10 ^ 58) (hb : 2 ≤ b) (h8 : b < 10 ^ 60) (hb2 : b < 10 ^ 58 + 2) (h1 : (numL t).length ≤ 60) (h2 : (numL b).length ≤ 60) (h3 : (numL (6 * t + 6)).length ≤ 60) (h4 : (numL (6 * b + 6)).length ≤ 60) (h5 : (numL (35 * t + 35)).length ≤ 60) (h7 : (numL (35 * b + 35)).length ≤ 60) (ne : numL t ≠ []) (nb : numL b ≠ []) (f47 : 47 ∉ numL t) (g47 : 47 ∉ numL b) : Nf (S (numL t) ++ oc "//" ++ S (numL b)) :=
  nf (l := numL t ++ 47 :: ([] ++ 47 :: numL b)) (by walk_at "tz") (no3 (figs_num _ _) f47 (by simp) g47) (by simp [n0, n1]; omega)
theorem bad_19 {t b : Nat} (h6 : t < 10 ^ 60) (ht : t < 10 ^ 58) (hb : 2 ≤ b) (h8 : b < 10 ^ 60) (hb2 : b < 10 ^ 58 + 2) (h1 : (numL t).length ≤ 60) (h2 : (numL b).length ≤ 60) (h3 : (numL (6 * t + 6)).length ≤ 60) (h4 : (numL (6 * b + 6)).length ≤ 60) (h5 : (numL (35 * t + 35)).length ≤ 60) (h7 : (numL (35 * b + 35)).length ≤ 60) (ne : numL t ≠ []) (nb : numL b ≠ []) (f47 : 47 ∉ numL t) (g47 : 47 ∉ numL b) : Nf (S (numL t) ++ oc "/0" ++ S (numL b)) :=
  nf (l := numL t ++ 47 :: (48 :: numL b)) (by walk_at "tz") (no2b (figs_num _ _) f47 (by simp [g47]) (wz nb)) (by simp [n0, n1]; omega)
theorem bad_20 {t b : Nat} (h6 : t < 10 ^ 60) (ht : t < 10 ^ 58) (hb : 2 ≤ b) (h8 : b < 10 ^ 60) (hb2 : b < 10 ^ 58 + 2) (h1 : (numL t).length ≤ 60) (h2 : (numL b).length ≤ 60) (h3 : (numL (6 * t + 6)).length ≤ 60) (h4 : (numL (6 * b + 6)).length ≤ 60) (h5 : (numL (35 * t + 35)).length ≤ 60) (h7 : (numL (35 * b + 35)).length ≤ 60) (ne : numL t ≠ []) (nb : numL b ≠ []) (f47 : 47 ∉ numL t) (g47 : 47 ∉ numL b) : Nf (oc "0" ++ (S (numL t) ++ oc "/" ++ S (numL b))) :=
  nf (l := (48 :: numL t) ++ 47 :: numL b) (by walk_at "tz") (no2a (a := 48 :: numL t) (r := numL b) (figs_c (c := 48) (r := numL t ++ 47 :: numL b) (by decide)) (by simp [f47]) (wz ne)) (by simp [n0, n1]; omega)
theorem bad_21 {t b : Nat} (h6 : t < 10 ^ 60) (ht : t < 10 ^ 58) (hb : 2 ≤ b) (h8 : b < 10 ^ 60) (hb2 : b < 10 ^ 58 + 2) (h1 : (numL t).length ≤ 60) (h2 : (numL b).length ≤ 60) (h3 : (numL (6 * t + 6)).length ≤ 60) (h4 : (numL (6 * b + 6)).length ≤ 60) (h5 : (numL (35 * t + 35)).length ≤ 60) (h7 : (numL (35 * b + 35)).length ≤ 60) (ne : numL t ≠ []) (nb : numL b ≠ []) (f47 : 47 ∉ numL t) (g47 : 47 ∉ numL b) : Nf (oc "+" ++ (S (numL t) ++ oc "/" ++ S (numL b))) :=
  nf (l := (43 :: numL t) ++ 47 :: numL b) (by walk_at "tz") (no2a (a := 43 :: numL t) (r := numL b) (figs_c (c := 43) (r := numL t ++ 47 :: numL b) (by decide)) (by simp [f47]) (wb List.mem_cons_self (by decide))) (by simp [n0, n1]; omega)
theorem bad_22 {t b : Nat} (h6 : t < 10 ^ 60) (ht : t < 10 ^ 58) (hb : 2 ≤ b) (h8 : b < 10 ^ 60) (hb2 : b < 10 ^ 58 + 2) (h1 : (numL t).length ≤ 60) (h2 : (numL b).length ≤ 60) (h3 : (numL (6 * t + 6)).length ≤ 60) (h4 : (numL (6 * b + 6)).length ≤ 60) (h5 : (numL (35 * t + 35)).length ≤ 60) (h7 : (numL (35 * b + 35)).length ≤ 60) (ne : numL t ≠ []) (nb : numL b ≠ []) (f47 : 47 ∉ numL t) (g47 : 47 ∉ numL b) : Nf (oc "-0/" ++ S (numL b)) :=
  nf (l := 45 :: (numL 0 ++ 47 :: numL b)) (by walk_at "tz") (nov figs_m (by decide) h8 (.inr (.inl ⟨rfl, rfl⟩))) (by simp [n0, n1]; omega)
theorem bad_23 {t b : Nat} (h6 : t < 10 ^ 60) (ht : t < 10 ^ 58) (hb : 2 ≤ b) (h8 : b < 10 ^ 60) (hb2 : b < 10 ^ 58 + 2) (h1 : (numL t).length ≤ 60) (h2 : (numL b).length ≤ 60) (h3 : (numL (6 * t + 6)).length ≤ 60) (h4 : (numL (6 * b + 6)).length ≤ 60) (h5 : (numL (35 * t + 35)).length ≤ 60) (h7 : (numL (35 * b + 35)).length ≤ 60) (ne : numL t ≠ []) (nb : numL b ≠ []) (f47 : 47 ∉ numL t) (g47 : 47 ∉ numL b) : Nf (oc "0/" ++ S (numL b)) :=
  nf (l := numL 0 ++ 47 :: numL b) (by walk_at "tz") (nov (figs_num _ _) (by decide) h8 (.inr (.inr (by rw [Nat.gcd_zero_right]; omega)))) (by simp [n0, n1]; omega)
theorem bad_24 {t b : Nat} (h6 : t < 10 ^ 60) (ht : t < 10 ^ 58) (hb : 2 ≤ b) (h8 : b < 10 ^ 60) (hb2 : b < 10 ^ 58 + 2) (h1 : (numL t).length ≤ 60) (h2 : (numL b).length ≤ 60) (h3 : (numL (6 * t + 6)).length ≤ 60) (h4 : (numL (6 * b + 6)).length ≤ 60) (h5 : (numL (35 * t + 35)).length ≤ 60) (h7 : (numL (35 * b + 35)).length ≤ 60) (ne : numL t ≠ []) (nb : numL b ≠ []) (f47 : 47 ∉ numL t) (g47 : 47 ∉ numL b) : Nf (S (numL t) ++ oc " /" ++ S (numL b)) :=
  nf (l := (numL t ++ [32]) ++ 47 :: numL b) (by walk_at "tz") (no2a (l := (numL t ++ [32]) ++ 47 :: numL b) (by rw [List.append_assoc]; exact figs_num _ _) (by simp [f47]) (wb (c := 32) (by simp) (by decide))) (by simp [n0, n1]; omega)
theorem bad_25 {t b : Nat} (h6 : t < 10 ^ 60) (ht : t < 10 ^ 58) (hb : 2 ≤ b) (h8 : b < 10 ^ 60) (hb2 : b < 10 ^ 58 + 2) (h1 : (numL t).length ≤ 60) (h2 : (numL b).length ≤ 60) (h3 : (numL (6 * t + 6)).length ≤ 60) (h4 : (numL (6 * b + 6)).length ≤ 60) (h5 : (numL (35 * t + 35)).length ≤ 60) (h7 : (numL (35 * b + 35)).length ≤ 60) (ne : numL t ≠ []) (nb : numL b ≠ []) (f47 : 47 ∉ numL t) (g47 : 47 ∉ numL b) : Nf (S (numL t) ++ oc "/ " ++ S (numL b)) :=
  nf (l := numL t ++ 47 :: (32 :: numL b)) (by walk_at "tz") (no2b (figs_num _ _) f47 (by simp [g47]) (wb List.mem_cons_self (by decide))) (by simp [n0, n1]; omega)
theorem bad_26 {t b : Nat} (h6 : t < 10 ^ 60) (ht : t < 10 ^ 58) (hb : 2 ≤ b) (h8 : b < 10 ^ 60) (hb2 : b < 10 ^ 58 + 2) (h1 : (numL t).length ≤ 60) (h2 : (numL b).length ≤ 60) (h3 : (numL (6 * t + 6)).length ≤ 60) (h4 : (numL (6 * b + 6)).length ≤ 60) (h5 : (numL (35 * t + 35)).length ≤ 60) (h7 : (numL (35 * b + 35)).length ≤ 60) (ne : numL t ≠ []) (nb : numL b ≠ []) (f47 : 47 ∉ numL t) (g47 : 47 ∉ numL b) : Nf (S (numL (6 * t + 6)) ++ oc "/" ++ S (numL (6 * b + 6))) :=
  nf (l := numL (6 * t + 6) ++ 47 :: numL (6 * b + 6)) (by walk_at "tz") (nov (figs_num _ _) (by omega) (by omega) (.inr (.inr (gk 6 (by decide) (t + 1) (b + 1) (by omega) (by omega))))) (by simp [n0, n1]; omega)
theorem bad_27 {t b : Nat} (h6 : t < 10 ^ 60) (ht : t < 10 ^ 58) (hb : 2 ≤ b) (h8 : b < 10 ^ 60) (hb2 : b < 10 ^ 58 + 2) (h1 : (numL t).length ≤ 60) (h2 : (numL b).length ≤ 60) (h3 : (numL (6 * t + 6)).length ≤ 60) (h4 : (numL (6 * b + 6)).length ≤ 60) (h5 : (numL (35 * t + 35)).length ≤ 60) (h7 : (numL (35 * b + 35)).length ≤ 60) (ne : numL t ≠ []) (nb : numL b ≠ []) (f47 : 47 ∉ numL t) (g47 : 47 ∉ numL b) : Nf (S (numL t) ++ oc ".0") :=
  nf (l := numL t ++ [46, 48]) (by walk_at "tz") (no1 (figs_num _ _) (by simp [f47]) (wb (c := 46) (by simp) (by decide))) (by simp [n0, n1]; omega)
theorem bad_28 {t b : Nat} (h6 : t < 10 ^ 60) (ht : t < 10 ^ 58) (hb : 2 ≤ b) (h8 : b < 10 ^ 60) (hb2 : b < 10 ^ 58 + 2) (h1 : (numL t).length ≤ 60) (h2 : (numL b).length ≤ 60) (h3 : (numL (6 * t + 6)).length ≤ 60) (h4 : (numL (6 * b + 6)).length ≤ 60) (h5 : (numL (35 * t + 35)).length ≤ 60) (h7 : (numL (35 * b + 35)).length ≤ 60) (ne : numL t ≠ []) (nb : numL b ≠ []) (f47 : 47 ∉ numL t) (g47 : 47 ∉ numL b) : Nf (S (numL t) ++ oc "e1") :=
  nf (l := numL t ++ [101, 49]) (by walk_at "tz") (no1 (figs_num _ _) (by simp [f47]) (wb (c := 101) (by simp) (by decide))) (by simp [n0, n1]; omega)
theorem bad_29 {t b : Nat} (h6 : t < 10 ^ 60) (ht : t < 10 ^ 58) (hb : 2 ≤ b) (h8 : b < 10 ^ 60) (hb2 : b < 10 ^ 58 + 2) (h1 : (numL t).length ≤ 60) (h2 : (numL b).length ≤ 60) (h3 : (numL (6 * t + 6)).length ≤ 60) (h4 : (numL (6 * b + 6)).length ≤ 60) (h5 : (numL (35 * t + 35)).length ≤ 60) (h7 : (numL (35 * b + 35)).length ≤ 60) (ne : numL t ≠ []) (nb : numL b ≠ []) (f47 : 47 ∉ numL t) (g47 : 47 ∉ numL b) : Nf (oc "a") :=
  nf (l := [97]) (by decide +kernel) (no1 (figs_c (by decide)) (by simp) (wb List.mem_cons_self (by decide))) (by decide +kernel)
theorem bad_30 {t b : Nat} (h6 : t < 10 ^ 60) (ht : t < 10 ^ 58) (hb : 2 ≤ b) (h8 : b < 10 ^ 60) (hb2 : b < 10 ^ 58 + 2) (h1 : (numL t).length ≤ 60) (h2 : (numL b).length ≤ 60) (h3 : (numL (6 * t + 6)).length ≤ 60) (h4 : (numL (6 * b + 6)).length ≤ 60) (h5 : (numL (35 * t + 35)).length ≤ 60) (h7 : (numL (35 * b + 35)).length ≤ 60) (ne : numL t ≠ []) (nb : numL b ≠ []) (f47 : 47 ∉ numL t) (g47 : 47 ∉ numL b) : Nf (oc "1" ++ Txt.mul (oc "0") 60) :=
  nf (l := 49 :: List.replicate 60 48) (by decide +kernel) (no1 (figs_c (by decide)) (by decide) (wl (by decide))) (by decide +kernel)
theorem bad_31 {t b : Nat} (h6 : t < 10 ^ 60) (ht : t < 10 ^ 58) (hb : 2 ≤ b) (h8 : b < 10 ^ 60) (hb2 : b < 10 ^ 58 + 2) (h1 : (numL t).length ≤ 60) (h2 : (numL b).length ≤ 60) (h3 : (numL (6 * t + 6)).length ≤ 60) (h4 : (numL (6 * b + 6)).length ≤ 60) (h5 : (numL (35 * t + 35)).length ≤ 60) (h7 : (numL (35 * b + 35)).length ≤ 60) (ne : numL t ≠ []) (nb : numL b ≠ []) (f47 : 47 ∉ numL t) (g47 : 47 ∉ numL b) : Nf (oc "1/1" ++ Txt.mul (oc "0") 60) :=
  nf (l := [49] ++ 47 :: (49 :: List.replicate 60 48)) (by decide +kernel) (no2b (a := [49]) (b := 49 :: List.replicate 60 48) rfl (by decide) (by decide) (wl (by decide))) (by decide +kernel)
theorem bad_32 {t b : Nat} (h6 : t < 10 ^ 60) (ht : t < 10 ^ 58) (hb : 2 ≤ b) (h8 : b < 10 ^ 60) (hb2 : b < 10 ^ 58 + 2) (h1 : (numL t).length ≤ 60) (h2 : (numL b).length ≤ 60) (h3 : (numL (6 * t + 6)).length ≤ 60) (h4 : (numL (6 * b + 6)).length ≤ 60) (h5 : (numL (35 * t + 35)).length ≤ 60) (h7 : (numL (35 * b + 35)).length ≤ 60) (ne : numL t ≠ []) (nb : numL b ≠ []) (f47 : 47 ∉ numL t) (g47 : 47 ∉ numL b) : Nf (oc "1_0") :=
  nf (l := [49, 95, 48]) (by decide +kernel) (no1 (figs_c (by decide)) (by decide) (wb (c := 95) (by decide) (by decide))) (by decide +kernel)
theorem bad_33 {t b : Nat} (h6 : t < 10 ^ 60) (ht : t < 10 ^ 58) (hb : 2 ≤ b) (h8 : b < 10 ^ 60) (hb2 : b < 10 ^ 58 + 2) (h1 : (numL t).length ≤ 60) (h2 : (numL b).length ≤ 60) (h3 : (numL (6 * t + 6)).length ≤ 60) (h4 : (numL (6 * b + 6)).length ≤ 60) (h5 : (numL (35 * t + 35)).length ≤ 60) (h7 : (numL (35 * b + 35)).length ≤ 60) (ne : numL t ≠ []) (nb : numL b ≠ []) (f47 : 47 ∉ numL t) (g47 : 47 ∉ numL b) : Nf (oc "-/" ++ S (numL b)) :=
  nf (l := 45 :: ([] ++ 47 :: numL b)) (by walk_at "tz") (no2a figs_m (by simp) we) (by simp [n0, n1]; omega)
theorem bad_34 {t b : Nat} (h6 : t < 10 ^ 60) (ht : t < 10 ^ 58) (hb : 2 ≤ b) (h8 : b < 10 ^ 60) (hb2 : b < 10 ^ 58 + 2) (h1 : (numL t).length ≤ 60) (h2 : (numL b).length ≤ 60) (h3 : (numL (6 * t + 6)).length ≤ 60) (h4 : (numL (6 * b + 6)).length ≤ 60) (h5 : (numL (35 * t + 35)).length ≤ 60) (h7 : (numL (35 * b + 35)).length ≤ 60) (ne : numL t ≠ []) (nb : numL b ≠ []) (f47 : 47 ∉ numL t) (g47 : 47 ∉ numL b) : Nf (oc "-" ++ S (numL (6 * t + 6)) ++ oc "/" ++ S (numL (6 * b + 6))) :=
  nf (l := 45 :: (numL (6 * t + 6) ++ 47 :: numL (6 * b + 6))) (by walk_at "tz") (nov figs_m (by omega) (by omega) (.inr (.inr (gk 6 (by decide) (t + 1) (b + 1) (by omega) (by omega))))) (by simp [n0, n1]; omega)
theorem bad_35 {t b : Nat} (h6 : t < 10 ^ 60) (ht : t < 10 ^ 58) (hb : 2 ≤ b) (h8 : b < 10 ^ 60) (hb2 : b < 10 ^ 58 + 2) (h1 : (numL t).length ≤ 60) (h2 : (numL b).length ≤ 60) (h3 : (numL (6 * t + 6)).length ≤ 60) (h4 : (numL (6 * b + 6)).length ≤ 60) (h5 : (numL (35 * t + 35)).length ≤ 60) (h7 : (numL (35 * b + 35)).length ≤ 60) (ne : numL t ≠ []) (nb : numL b ≠ []) (f47 : 47 ∉ numL t) (g47 : 47 ∉ numL b) : Nf (oc "-" ++ S (numL t) ++ oc "/1") :=
  nf (l := 45 :: (numL t ++ 47 :: numL 1)) (by walk_at "tz") (nov figs_m h6 (by decide) (.inl (by decide))) (by simp [n0, n1]; omega)
theorem bad_36 {t b : Nat} (h6 : t < 10 ^ 60) (ht : t < 10 ^ 58) (hb : 2 ≤ b) (h8 : b < 10 ^ 60) (hb2 : b < 10 ^ 58 + 2) (h1 : (numL t).length ≤ 60) (h2 : (numL b).length ≤ 60) (h3 : (numL (6 * t + 6)).length ≤ 60) (h4 : (numL (6 * b + 6)).length ≤ 60) (h5 : (numL (35 * t + 35)).length ≤ 60) (h7 : (numL (35 * b + 35)).length ≤ 60) (ne : numL t ≠ []) (nb : numL b ≠ []) (f47 : 47 ∉ numL t) (g47 : 47 ∉ numL b) : Nf (oc "-0/1") :=
  nf (l := 45 :: (numL 0 ++ 47 :: numL 1)) (by decide +kernel) (nov figs_m (by decide) (by decide) (.inl (by decide))) (by decide +kernel)
theorem bad_37 {t b : Nat} (h6 : t < 10 ^ 60) (ht : t < 10 ^ 58) (hb : 2 ≤ b) (h8 : b < 10 ^ 60) (hb2 : b < 10 ^ 58 + 2) (h1 : (numL t).length ≤ 60) (h2 : (numL b).length ≤ 60) (h3 : (numL (6 * t + 6)).length ≤ 60) (h4 : (numL (6 * b + 6)).length ≤ 60) (h5 : (numL (35 * t + 35)).length ≤ 60) (h7 : (numL (35 * b + 35)).length ≤ 60) (ne : numL t ≠ []) (nb : numL b ≠ []) (f47 : 47 ∉ numL t) (g47 : 47 ∉ numL b) : Nf (S (numL (35 * t + 35)) ++ oc "/" ++ S (numL (35 * b + 35))) :=
  nf (l := numL (35 * t + 35) ++ 47 :: numL (35 * b + 35)) (by walk_at "tz") (nov (figs_num _ _) (by omega) (by omega) (.inr (.inr (gk 35 (by decide) (t + 1) (b + 1) (by omega) (by omega))))) (by simp [n0, n1]; omega)
theorem bad_38 {t b : Nat} (h6 : t < 10 ^ 60) (ht : t < 10 ^ 58) (hb : 2 ≤ b) (h8 : b < 10 ^ 60) (hb2 : b < 10 ^ 58 + 2) (h1 : (numL t).length ≤ 60) (h2 : (numL b).length ≤ 60) (h3 : (numL (6 * t + 6)).length ≤ 60) (h4 : (numL (6 * b + 6)).length ≤ 60) (h5 : (numL (35 * t + 35)).length ≤ 60) (h7 : (numL (35 * b + 35)).length ≤ 60) (ne : numL t ≠ []) (nb : numL b ≠ []) (f47 : 47 ∉ numL t) (g47 : 47 ∉ numL b) : Nf (oc "-1" ++ Txt.mul (oc "0") 60) :=
  nf (l := 45 :: (49 :: List.replicate 60 48)) (by decide +kernel) (no1 figs_m (by decide) (wl (by decide))) (by decide +kernel)
theorem bad_39 {t b : Nat} (h6 : t < 10 ^ 60) (ht : t < 10 ^ 58) (hb : 2 ≤ b) (h8 : b < 10 ^ 60) (hb2 : b < 10 ^ 58 + 2) (h1 : (numL t).length ≤ 60) (h2 : (numL b).length ≤ 60) (h3 : (numL (6 * t + 6)).length ≤ 60) (h4 : (numL (6 * b + 6)).length ≤ 60) (h5 : (numL (35 * t + 35)).length ≤ 60) (h7 : (numL (35 * b + 35)).length ≤ 60) (ne : numL t ≠ []) (nb : numL b ≠ []) (f47 : 47 ∉ numL t) (g47 : 47 ∉ numL b) : Nf (oc "1" ++ Txt.mul (oc "0") 60 ++ oc "/7") :=
  nf (l := (49 :: List.replicate 60 48) ++ 47 :: [55]) (by decide +kernel) (no2a (a := 49 :: List.replicate 60 48) (r := [55]) rfl (by decide) (wl (by decide))) (by decide +kernel)
theorem bads_all {t b : Nat} (ht : t < 10 ^ 58) (hb : 2 ≤ b) (hb2 : b < 10 ^ 58 + 2) : ∀ z ∈ bads t b, Nf z := by
  have h6 : t < 10 ^ 60 := by omega
  have h8 : b < 10 ^ 60 := by omega
  have h1 := num_len t (by omega)
  have h2 := num_len b (by omega)
  have h3 := num_len (6 * t + 6) (by omega)
  have h4 := num_len (6 * b + 6) (by omega)
  have h5 := num_len (35 * t + 35) (by omega)
  have h7 := num_len (35 * b + 35) (by omega)
  have ne := numL_ne t
  have nb := numL_ne b
  have f47 := n47 t
  have g47 := n47 b
  have N : ∀ {z : Str} {l : List Str}, Nf z → (∀ y ∈ l, Nf y) → ∀ y ∈ z :: l, Nf y := fun h1 h2 y hy => (List.mem_cons.mp hy).elim (fun e => e ▸ h1) (h2 y)
  unfold bads
  refine N (bad_0 h6 ht hb h8 hb2 h1 h2 h3 h4 h5 h7 ne nb f47 g47) ?_
  refine N (bad_1 h6 ht hb h8 hb2 h1 h2 h3 h4 h5 h7 ne nb f47 g47) ?_
  refine N (bad_2 h6 ht hb h8 hb2 h1 h2 h3 h4 h5 h7 ne nb f47 g47) ?_
  refine N (bad_3 h6 ht hb h8 hb2 h1 h2 h3 h4 h5 h7 ne nb f47 g47) ?_
  refine N (bad_4 h6 ht hb h8 hb2 h1 h2 h3 h4 h5 h7 ne nb f47 g47) ?_
  refine N (bad_5 h6 ht hb h8 hb2 h1 h2 h3 h4 h5 h7 ne nb f47 g47) ?_
  refine N (bad_6 h6 ht hb h8 hb2 h1 h2 h3 h4 h5 h7 ne nb f47 g47) ?_
  refine N (bad_7 h6 ht hb h8 hb2 h1 h2 h3 h4 h5 h7 ne nb f47 g47) ?_
  refine N (bad_8 h6 ht hb h8 hb2 h1 h2 h3 h4 h5 h7 ne nb f47 g47) ?_
  refine N (bad_9 h6 ht hb h8 hb2 h1 h2 h3 h4 h5 h7 ne nb f47 g47) ?_
  refine N (bad_10 h6 ht hb h8 hb2 h1 h2 h3 h4 h5 h7 ne nb f47 g47) ?_
  refine N (bad_11 h6 ht hb h8 hb2 h1 h2 h3 h4 h5 h7 ne nb f47 g47) ?_
  refine N (bad_12 h6 ht hb h8 hb2 h1 h2 h3 h4 h5 h7 ne nb f47 g47) ?_
  refine N (bad_13 h6 ht hb h8 hb2 h1 h2 h3 h4 h5 h7 ne nb f47 g47) ?_
  refine N (bad_14 h6 ht hb h8 hb2 h1 h2 h3 h4 h5 h7 ne nb f47 g47) ?_
  refine N (bad_15 h6 ht hb h8 hb2 h1 h2 h3 h4 h5 h7 ne nb f47 g47) ?_
  refine N (bad_16 h6 ht hb h8 hb2 h1 h2 h3 h4 h5 h7 ne nb f47 g47) ?_
  refine N (bad_17 h6 ht hb h8 hb2 h1 h2 h3 h4 h5 h7 ne nb f47 g47) ?_
  refine N (bad_18 h6 ht hb h8 hb2 h1 h2 h3 h4 h5 h7 ne nb f47 g47) ?_
  refine N (bad_19 h6 ht hb h8 hb2 h1 h2 h3 h4 h5 h7 ne nb f47 g47) ?_
  refine N (bad_20 h6 ht hb h8 hb2 h1 h2 h3 h4 h5 h7 ne nb f47 g47) ?_
  refine N (bad_21 h6 ht hb h8 hb2 h1 h2 h3 h4 h5 h7 ne nb f47 g47) ?_
  refine N (bad_22 h6 ht hb h8 hb2 h1 h2 h3 h4 h5 h7 ne nb f47 g47) ?_
  refine N (bad_23 h6 ht hb h8 hb2 h1 h2 h3 h4 h5 h7 ne nb f47 g47) ?_
  refine N (bad_24 h6 ht hb h8 hb2 h1 h2 h3 h4 h5 h7 ne nb f47 g47) ?_
  refine N (bad_25 h6 ht hb h8 hb2 h1 h2 h3 h4 h5 h7 ne nb f47 g47) ?_
  refine N (bad_26 h6 ht hb h8 hb2 h1 h2 h3 h4 h5 h7 ne nb f47 g47) ?_
  refine N (bad_27 h6 ht hb h8 hb2 h1 h2 h3 h4 h5 h7 ne nb f47 g47) ?_
  refine N (bad_28 h6 ht hb h8 hb2 h1 h2 h3 h4 h5 h7 ne nb f47 g47) ?_
  refine N (bad_29 h6 ht hb h8 hb2 h1 h2 h3 h4 h5 h7 ne nb f47 g47) ?_
  refine N (bad_30 h6 ht hb h8 hb2 h1 h2 h3 h4 h5 h7 ne nb f47 g47) ?_
  refine N (bad_31 h6 ht hb h8 hb2 h1 h2 h3 h4 h5 h7 ne nb f47 g47) ?_
  refine N (bad_32 h6 ht hb h8 hb2 h1 h2 h3 h4 h5 h7 ne nb f47 g47) ?_
  refine N (bad_33 h6 ht hb h8 hb2 h1 h2 h3 h4 h5 h7 ne nb f47 g47) ?_
  refine N (bad_34 h6 ht hb h8 hb2 h1 h2 h3 h4 h5 h7 ne nb f47 g47) ?_
  refine N (bad_35 h6 ht hb h8 hb2 h1 h2 h3 h4 h5 h7 ne nb f47 g47) ?_
  refine N (bad_36 h6 ht hb h8 hb2 h1 h2 h3 h4 h5 h7 ne nb f47 g47) ?_
  refine N (bad_37 h6 ht hb h8 hb2 h1 h2 h3 h4 h5 h7 ne nb f47 g47) ?_
  refine N (bad_38 h6 ht hb h8 hb2 h1 h2 h3 h4 h5 h7 ne nb f47 g47) ?_
  refine N (bad_39 h6 ht hb h8 hb2 h1 h2 h3 h4 h5 h7 ne nb f47 g47) ?_
  intro y hy
  cases hy
end M

section
end
open L2 (Same Dp DpAll)
local macro_rules | `(tactic| walk_at "szs") => `(tactic| first | (simp only [List.length_cons, List.length_nil, List.length_append, List.length_map, List.length_take, List.length_drop, List.length_set, Z.len_empty, Z.len_app] <;> omega) | omega | (simp [Z.len_app, M.S_len, PyProof.Rows.ofString_length] <;> omega))
local macro_rules | `(tactic| walk_at "fn") => `(tactic| first | assumption | (refine Z.fr (by assumption) ?_; walk_at "sm"))
local macro_rules | `(tactic| walk_at "sm") => `(tactic| first
  | assumption
  | exact Same.refl _
  | (refine Z.Same.tr (by assumption) ?_; walk_at "sm")
  | (refine Z.Same.but (by assumption) ?_ ?_; (walk_at "fn"); walk_at "sm"))
local macro_rules | `(tactic| walk_at "bt") => `(tactic| first
  | assumption
  | (refine Z.But.tr (by assumption) ?_; walk_at "bt")
  | (refine Z.But.but (by assumption) ?_; walk_at "bt")
  | (refine Z.But.but2 (by assumption) ?_ ?_; (walk_at "fn"); walk_at "bt")
  | (refine Z.But.of ?_; walk_at "sm"))
local macro_rules | `(tactic| walk_at "ne") => `(tactic| first
  | assumption
  | (refine Ne.symm ?_; assumption)
  | (refine Z.ne1 (o := ?o) (by assumption) ?h; (case h => walk_at "lk"))
  | (refine Ne.symm (Z.ne1 (o := ?o) (by assumption) ?h); (case h => walk_at "lk")))
local macro_rules | `(tactic| walk_at "lk") => `(tactic| first
  | assumption
  | with_reducible exact Dp.int _
  | with_reducible exact Dp.str _
  | with_reducible exact Dp.bl _
  | with_reducible exact Dp.non
  | with_reducible exact DpAll.nil
  | ((with_reducible refine Z.up (by assumption) ?_); walk_at "lk")
  | ((with_reducible refine Z.upB (by assumption) ?_ ?_); (walk_at "ne"); walk_at "lk")
  | ((with_reducible refine Z.sqL ?_); walk_at "lk")
  | ((with_reducible refine Z.sqT ?_); walk_at "lk")
  | ((with_reducible refine Z.upL (by assumption) ?_); walk_at "lk")
  | ((with_reducible refine Z.upT (by assumption) ?_); walk_at "lk")
  | ((with_reducible refine Z.upLB (by assumption) ?_ ?_); (walk_at "ne"); walk_at "lk")
  | ((with_reducible refine Z.upTB (by assumption) ?_ ?_); (walk_at "ne"); walk_at "lk")
  | ((with_reducible refine Z.dpUp (by assumption) ?_); walk_at "lk")
  | ((with_reducible refine Z.dpsUp (by assumption) ?_); walk_at "lk")
  | ((with_reducible refine DpAll.cons ?_ ?_); (walk_at "lk"); walk_at "lk")
  | ((with_reducible refine Dp.tup (xs := ?xs) ?h1 ?h2); (case h1 => walk_at "lk"); (case h2 => walk_at "lk"))
  | ((with_reducible refine Dp.lst (xs := ?xs) ?h1 ?h2); (case h1 => walk_at "lk"); (case h2 => walk_at "lk")))
local macro_rules | `(tactic| walk_at "sd") => `(tactic| first
  | rfl
  | assumption
  | omega
  | decide
  | decide +kernel
  | exact Z.szl (by walk_at "szs")
  | exact Z.szlt (by walk_at "szs")
  | exact Or.inl ⟨by omega, by omega⟩
  | exact Or.inl (Or.inl ⟨by omega, by omega⟩)
  | exact Or.inl (Or.inr ⟨by omega, by omega⟩)
  | exact ⟨by omega, by omega⟩
  | exact ⟨by omega, by omega, by omega⟩)
local macro_rules | `(tactic| walk_at "isi") => `(tactic| first
  | with_reducible refine Z.q_int_int ?_
  | with_reducible refine Z.q_int_bool ?_
  | with_reducible refine Z.q_int_str ?_
  | with_reducible refine Z.q_int_list ?_
  | with_reducible refine Z.q_int_tuple ?_
  | with_reducible refine Z.q_int_dict ?_
  | with_reducible refine Z.q_bool_int ?_
  | with_reducible refine Z.q_bool_bool ?_
  | with_reducible refine Z.q_bool_str ?_
  | with_reducible refine Z.q_bool_list ?_
  | with_reducible refine Z.q_bool_tuple ?_
  | with_reducible refine Z.q_bool_dict ?_
  | with_reducible refine Z.q_str_int ?_
  | with_reducible refine Z.q_str_bool ?_
  | with_reducible refine Z.q_str_str ?_
  | with_reducible refine Z.q_str_list ?_
  | with_reducible refine Z.q_str_tuple ?_
  | with_reducible refine Z.q_str_dict ?_
  | with_reducible refine Z.q_NoneType_int ?_
  | with_reducible refine Z.q_NoneType_bool ?_
  | with_reducible refine Z.q_NoneType_str ?_
  | with_reducible refine Z.q_NoneType_list ?_
  | with_reducible refine Z.q_NoneType_tuple ?_
  | with_reducible refine Z.q_NoneType_dict ?_
  | ((with_reducible refine Z.q_list_int (xs := ?xs) ?h ?_); (case h => walk_at "lk"))
  | ((with_reducible refine Z.q_list_bool (xs := ?xs) ?h ?_); (case h => walk_at "lk"))
  | ((with_reducible refine Z.q_list_str (xs := ?xs) ?h ?_); (case h => walk_at "lk"))
  | ((with_reducible refine Z.q_list_list (xs := ?xs) ?h ?_); (case h => walk_at "lk"))
  | ((with_reducible refine Z.q_list_tuple (xs := ?xs) ?h ?_); (case h => walk_at "lk"))
  | ((with_reducible refine Z.q_list_dict (xs := ?xs) ?h ?_); (case h => walk_at "lk"))
  | ((with_reducible refine Z.q_tuple_int (xs := ?xs) ?h ?_); (case h => walk_at "lk"))
  | ((with_reducible refine Z.q_tuple_bool (xs := ?xs) ?h ?_); (case h => walk_at "lk"))
  | ((with_reducible refine Z.q_tuple_str (xs := ?xs) ?h ?_); (case h => walk_at "lk"))
  | ((with_reducible refine Z.q_tuple_list (xs := ?xs) ?h ?_); (case h => walk_at "lk"))
  | ((with_reducible refine Z.q_tuple_tuple (xs := ?xs) ?h ?_); (case h => walk_at "lk"))
  | ((with_reducible refine Z.q_tuple_dict (xs := ?xs) ?h ?_); (case h => walk_at "lk"))
  | ((with_reducible refine Z.q_dict_int (xs := ?xs) ?h ?_); (case h => walk_at "lk"))
  | ((with_reducible refine Z.q_dict_bool (xs := ?xs) ?h ?_); (case h => walk_at "lk"))
  | ((with_reducible refine Z.q_dict_str (xs := ?xs) ?h ?_); (case h => walk_at "lk"))
  | ((with_reducible refine Z.q_dict_list (xs := ?xs) ?h ?_); (case h => walk_at "lk"))
  | ((with_reducible refine Z.q_dict_tuple (xs := ?xs) ?h ?_); (case h => walk_at "lk"))
  | ((with_reducible refine Z.q_dict_dict (xs := ?xs) ?h ?_); (case h => walk_at "lk")))
local macro_rules | `(tactic| walk_at "tr") => `(tactic| (set_option pp.maxSteps 1500 in trace_state))
local macro_rules | `(tactic| walk_at "st") => `(tactic| try dsimp only [cxOf, Cx.wish])
local macro_rules | `(tactic| walk_at "rd1") => `(tactic| first
  | with_reducible refine Z.v0 ?_
  | with_reducible refine Z.v1 ?_
  | with_reducible refine Z.v2 ?_
  | with_reducible refine Z.v3 ?_
  | with_reducible refine Z.v4 ?_
  | with_reducible refine Z.v5 ?_
  | with_reducible refine Z.v6 ?_
  | with_reducible refine Z.v7 ?_
  | with_reducible refine Z.v8 ?_
  | with_reducible refine Z.v9 ?_
  | with_reducible refine Z.v10 ?_
  | with_reducible refine Z.v11 ?_
  | with_reducible refine Z.v12 ?_
  | with_reducible refine Z.v13 ?_
  | with_reducible refine Z.v14 ?_
  | with_reducible refine Z.r_c ?_
  | with_reducible refine Z.r_op ?_
  | with_reducible refine Z.r_seq ?_
  | with_reducible refine Z.r_asg ?_
  | with_reducible refine Z.n0 ?_
  | with_reducible refine Z.n1 ?_
  | with_reducible refine Z.n2 ?_
  | with_reducible refine Z.n3 ?_
  | with_reducible refine Z.n4 ?_
  | with_reducible refine Z.n5 ?_
  | with_reducible refine Z.n6 ?_
  | with_reducible refine Z.n7 ?_
  | with_reducible refine Z.n8 ?_
  | with_reducible refine Z.n9 ?_
  | with_reducible refine Z.n10 ?_
  | with_reducible refine Z.n11 ?_
  | with_reducible refine Z.n12 ?_
  | with_reducible refine Z.n13 ?_
  | with_reducible refine Z.n14 ?_
  | with_reducible refine Z.r_cons ?_
  | with_reducible refine Z.r_nil ?_
  | with_reducible refine Z.r_CB ?_
  | with_reducible refine Z.r_call ?_
  | with_reducible refine Z.r_ret ?_
  | with_reducible refine Z.r_ifS ?_
  | with_reducible refine Z.r_test ?_
  | with_reducible refine Z.r_tB ?_
  | with_reducible refine Z.r_exB ?_
  | with_reducible refine Z.r_exI ?_
  | with_reducible refine Z.r_T ?_
  | with_reducible refine Z.r_F ?_
  | with_reducible refine Z.r_nT ?_
  | with_reducible refine Z.r_nF ?_
  | with_reducible refine Z.r_addI ?_
  | with_reducible refine Z.r_sub ?_
  | ((with_reducible refine Z.r_mulI ?_ ?h); (case h => walk_at "sd"))
  | ((with_reducible refine Z.r_mod ?_ ?h); (case h => walk_at "sd"))
  | ((with_reducible refine Z.r_div ?_ ?h); (case h => walk_at "sd"))
  | with_reducible refine Z.p10_6 ?_
  | with_reducible refine Z.p10_8 ?_
  | with_reducible refine Z.p10_9 ?_
  | with_reducible refine Z.p10_18 ?_
  | ((with_reducible refine Z.r_pow ?_ ?h); (case h => walk_at "sd"))
  | ((with_reducible refine Z.r_addS ?_ ?h); (case h => walk_at "sd"))
  | ((with_reducible refine Z.r_addL (xs := ?xs) (ys := ?ys) ?h1 ?h2 ?_ ?h); (case h1 => walk_at "lk"); (case h2 => walk_at "lk"); (case h => walk_at "sd"))
  | with_reducible refine Z.r_eqI ?_
  | with_reducible refine Z.r_neI ?_
  | with_reducible refine Z.r_eqS ?_
  | with_reducible refine Z.r_neS ?_
  | ((with_reducible refine Z.r_eq ?_ ?h); (case h => rfl))
  | ((with_reducible refine Z.r_ne ?_ ?h); (case h => rfl))
  | with_reducible refine Z.r_lt ?_
  | with_reducible refine Z.r_le ?_
  | with_reducible refine Z.r_gt ?_
  | with_reducible refine Z.r_ge ?_
  | with_reducible refine Z.r_isN ?_
  | ((with_reducible refine Z.r_strN ?_ ?h); (case h => walk_at "sd"))
  | with_reducible refine Z.r_veI ?_
  | with_reducible refine Z.r_dnewK ?_
  | with_reducible refine Z.r_xv0 ?_
  | ((with_reducible refine Z.r_mulS ?_ ?h); (case h => exact ⟨by decide +kernel, fun _ _ => by decide +kernel, fun _ _ => by decide +kernel⟩))
  | with_reducible refine Z.r_ost ?_
  | with_reducible refine Z.r_raiO ?_
  | with_reducible refine Z.r_raiN ?_
  | with_reducible refine Z.r_ce ?_
  | with_reducible refine Z.r_fmtN ?_
  | with_reducible refine Z.r_isI ?_
  | with_reducible refine Z.r_isS ?_
  | with_reducible refine Z.r_isR ?_
  | with_reducible refine Z.r_isB ?_
  | with_reducible refine Z.r_notN ?_
  | with_reducible refine Z.r_notI ?_
  | with_reducible refine Z.r_notS ?_
  | with_reducible refine Z.r_notR ?_
  | with_reducible refine Z.r_inT ?_
  | with_reducible refine Z.r_notInT ?_
  | ((with_reducible refine Z.r_inL (xs := ?xs) ?h1 ?_ ?h2 ?h3); (case h1 => walk_at "lk"); (case h2 => rfl); (case h3 => first | rfl | assumption))
  | ((with_reducible refine Z.r_notInL (xs := ?xs) ?h1 ?_ ?h2 ?h3); (case h1 => walk_at "lk"); (case h2 => rfl); (case h3 => first | rfl | assumption))
  | ((with_reducible refine Z.r_ixL (xs := ?xs) (v := ?v) ?h1 ?h2 ?_); (case h1 => walk_at "lk"); (case h2 => first | rfl | assumption))
  | ((with_reducible refine Z.r_ixT (xs := ?xs) (v := ?v) ?h1 ?h2 ?_); (case h1 => walk_at "lk"); (case h2 => first | rfl | assumption))
  | ((with_reducible refine Z.r_lenL (xs := ?xs) ?h1 ?_); (case h1 => walk_at "lk"))
  | ((with_reducible refine Z.r_lenT (xs := ?xs) ?h1 ?_); (case h1 => walk_at "lk"))
  | ((with_reducible refine Z.r_lenS ?_ ?h1); (case h1 => walk_at "sd"))
  | with_reducible refine Z.r_abs ?_
  | with_reducible refine Z.r_max ?_
  | with_reducible refine Z.r_min ?_
  | ((with_reducible refine Z.r_strI ?_ ?h1); (case h1 => walk_at "sd"))
  | ((with_reducible refine Z.r_listL (xs := ?xs) ?h1 ?_); (case h1 => walk_at "lk"))
  | ((with_reducible refine Z.r_listT (xs := ?xs) ?h1 ?_); (case h1 => walk_at "lk"))
  | ((with_reducible refine Z.r_isiHd ?_); walk_at "isi")
  | with_reducible refine Z.r_tup ?_
  | with_reducible refine Z.r_lst ?_
  | ((with_reducible refine Z.r_newT ?_ ?h); (case h => walk_at "sd"))
  | ((with_reducible refine Z.r_newL ?_ ?h); (case h => walk_at "sd"))
  | with_reducible refine Z.r_sl ?_
  | with_reducible refine Z.r_part ?_
  | with_reducible refine Z.r_noPart ?_
  | ((with_reducible refine Z.r_slL (xs := ?xs) ?h1 ?_); (case h1 => walk_at "lk"))
  | ((with_reducible refine Z.r_slS ?_ ?h1); (case h1 => walk_at "sd"))
  | with_reducible refine Z.r_un ?_
  | with_reducible refine Z.r_U ?_
  | with_reducible refine Z.r_BM ?_
  | with_reducible refine Z.r_BM0 ?_
  | with_reducible refine Z.r_tyS ?_
  | ((with_reducible refine Z.r_tyL (xs := ?xs) ?h ?_); (case h => walk_at "lk"))
  | ((with_reducible refine Z.r_appendQ (xs := ?xs) ?h ?_ ?h2); (case h => walk_at "lk"); (case h2 => walk_at "sd"))
  | ((with_reducible refine Z.r_split ?_ ?h ?h2); (case h => first | rfl | decide +kernel); (case h2 => walk_at "sd"))
  | with_reducible refine Z.r_subTg ?_
  | ((with_reducible refine Z.r_setL (xs := ?xs) (n := ?n) ?h ?h2 ?_); (case h => walk_at "lk"); (case h2 => first | rfl | assumption))
  | with_reducible refine Z.r_fmt ?_
  | ((with_reducible refine Z.r_fmtI ?_ ?h); (case h => walk_at "sd"))
  | ((with_reducible refine Z.r_fmtS ?_ ?h); (case h => walk_at "sd"))
  | with_reducible refine Z.r_js0 ?_
  | with_reducible refine Z.r_js ?_
  | ((with_reducible refine Z.r_jsS ?_ ?h); (case h => walk_at "sd"))
  | with_reducible refine Z.r_and ?_
  | with_reducible refine Z.r_or ?_
  | with_reducible refine Z.r_not ?_
  | with_reducible refine Z.r_andV ?_
  | with_reducible refine Z.r_orV ?_
  | with_reducible refine Z.r_notV ?_
  | with_reducible refine Z.r_chain ?_
  | with_reducible refine Z.r_ifE ?_
  | with_reducible refine Z.r_next ?_
  | with_reducible refine Z.r_par ?_
  | with_reducible refine Z.r_par2 ?_
  | with_reducible refine Z.r_drop ?_
  | with_reducible refine Z.r_retN ?_
  | with_reducible refine Z.r_brk ?_
  | with_reducible refine Z.r_cnt ?_
  | ((with_reducible refine Z.r_tg (xs := ?xs) ?h ?_ ?h2); (case h => walk_at "lk"); (case h2 => rfl))
  | with_reducible refine Z.r_gcons ?_
  | with_reducible refine Z.r_gnil ?_
  | ((with_reducible refine Z.r_aug (i := ?i) ?h ?_); (case h => exact rfl))
  | with_reducible refine Z.r_for ?_
  | with_reducible refine Z.r_lc ?_
  | with_reducible refine Z.i_L ?_
  | with_reducible refine Z.i_T ?_
  | with_reducible refine Z.i_S ?_
  | with_reducible refine Z.i_R1 ?_
  | with_reducible refine Z.i_R2 ?_
  | with_reducible refine Z.i_E ?_
  | with_reducible refine Z.i_Z ?_
  | ((with_reducible refine Z.s_L (xs := ?xs) ?h1 ?_); (case h1 => walk_at "lk"))
  | ((with_reducible refine Z.s_T (xs := ?xs) ?h1 ?_); (case h1 => walk_at "lk"))
  | with_reducible refine Z.s_S ?_
  | ((with_reducible refine Z.s_R1 ?_ ?h1); (case h1 => walk_at "sd"))
  | ((with_reducible refine Z.s_R2 ?_ ?h1); (case h1 => walk_at "sd"))
  | ((with_reducible refine Z.s_E (xs := ?xs) ?h1 ?_); (case h1 => walk_at "lk"))
  | ((with_reducible refine Z.s_Z (xs := ?xs) (ys := ?ys) ?h1 ?h2 ?_); (case h1 => walk_at "lk"); (case h2 => walk_at "lk"))
  | with_reducible refine Z.r_yes ?_
  | ((with_reducible refine Z.r_wipe ?h ?_); (case h => rfl)))
local macro_rules | `(tactic| walk_at "rd") => `(tactic| repeat (walk_at "rd1"))
local macro_rules | `(tactic| walk_at "mn") => `(tactic| repeat (first
  | exact Z.m_var | exact Z.m_c | exact Z.m_gt | exact Z.m_lt | exact Z.m_ge | exact Z.m_le | exact Z.m_eqP | exact Z.m_neP
  | refine Z.m_test ?_ | refine Z.m_op ?_ ?_ ?_ | refine Z.m_or ?_ ?_ | refine Z.m_and ?_ ?_))

namespace My
open PySem PySem.Spec PyProof.Rows L2 Z M SX TL
def top (i : Nat) : Stmt := PySem.Challenge.pw_dearsigns_k62_fractions_refused.main.body.getD i (.Pass ⟨0, 0, 0, 0⟩)
abbrev s_is_whole : Stmt := top 17
abbrev s_divisor : Stmt := top 18
abbrev s_lowest : Stmt := top 19
abbrev s_fraction : Stmt := top 20
abbrev s_whole_in : Stmt := top 24
abbrev s_fraction_in : Stmt := top 25
abbrev s_read_fraction : Stmt := top 26
abbrev s_law_pool : Stmt := top 28
abbrev s_law_take : Stmt := top 29
abbrev s_law_low : Stmt := top 30
abbrev s_law_great : Stmt := top 31
abbrev s_law_odd : Stmt := top 32
abbrev s_law_is_refused : Stmt := top 33
abbrev s_law : Stmt := top 34
theorem sc_is_whole : FnScope ["thing"] ["thing"] (defScope s_is_whole) := ⟨rfl, rfl, rfl, by decide +kernel, rfl, by decide +kernel, by decide +kernel⟩
theorem sc_divisor : FnScope ["one", "other"] ["one", "other"] (defScope s_divisor) := ⟨rfl, rfl, rfl, by decide +kernel, rfl, by decide +kernel, by decide +kernel⟩
theorem sc_lowest : FnScope ["top", "bottom", "share"] ["top", "bottom"] (defScope s_lowest) := ⟨rfl, rfl, rfl, by decide +kernel, rfl, by decide +kernel, by decide +kernel⟩
theorem sc_fraction : FnScope ["top", "bottom"] ["top", "bottom"] (defScope s_fraction) := ⟨rfl, rfl, rfl, by decide +kernel, rfl, by decide +kernel, by decide +kernel⟩
theorem sc_whole_in : FnScope ["word", "most", "sign"] ["word", "most"] (defScope s_whole_in) := ⟨rfl, rfl, rfl, by decide +kernel, rfl, by decide +kernel, by decide +kernel⟩
theorem sc_fraction_in : FnScope ["word", "most", "figures", "numbers", "one", "part"] ["word", "most"] (defScope s_fraction_in) := ⟨rfl, rfl, rfl, by decide +kernel, rfl, by decide +kernel, by decide +kernel⟩
theorem sc_read_fraction : FnScope ["text", "one"] ["text"] (defScope s_read_fraction) := ⟨rfl, rfl, rfl, by decide +kernel, rfl, by decide +kernel, by decide +kernel⟩
theorem sc_law_pool : FnScope ["_law_script", "_law_k", "_law_cell", "_law_seed"] ["_law_script", "_law_k"] (defScope s_law_pool) := ⟨rfl, rfl, rfl, by decide +kernel, rfl, by decide +kernel, by decide +kernel⟩
theorem sc_law_take : FnScope ["_law_pool_here", "_law_many", "_law_found"] ["_law_pool_here", "_law_many"] (defScope s_law_take) := ⟨rfl, rfl, rfl, by decide +kernel, rfl, by decide +kernel, by decide +kernel⟩
theorem sc_law_low : FnScope ["_law_top", "_law_bottom", "_law_one", "_law_other"] ["_law_top", "_law_bottom"] (defScope s_law_low) := ⟨rfl, rfl, rfl, by decide +kernel, rfl, by decide +kernel, by decide +kernel⟩
theorem sc_law_great : FnScope ["_law_pool_here", "_law_found", "_law_k"] ["_law_pool_here"] (defScope s_law_great) := ⟨rfl, rfl, rfl, by decide +kernel, rfl, by decide +kernel, by decide +kernel⟩
theorem sc_law_odd : FnScope ["_law_pool_here", "_law_one", "_law_top", "_law_bottom", "_law_both", "_law_some"] ["_law_pool_here", "_law_one"] (defScope s_law_odd) := ⟨rfl, rfl, rfl, by decide +kernel, rfl, by decide +kernel, by decide +kernel⟩
theorem sc_law_is_refused : FnScope ["_law_thing", "_law_error", "e"] ["_law_thing"] (defScope s_law_is_refused) := ⟨rfl, rfl, rfl, by decide +kernel, rfl, by decide +kernel, by decide +kernel⟩
theorem sc_law : FnScope ["_law_script", "_law_k", "_law_pool_here", "_law_top", "_law_bottom", "_law_thing", "_law_one", "_law_text"] ["_law_script"] (defScope s_law) := ⟨rfl, rfl, rfl, by decide +kernel, rfl, by decide +kernel, by decide +kernel⟩
theorem st_is_whole {a0 : V} : start ["thing"] [a0] = [some a0] := rfl
theorem st_divisor {a0 a1 : V} : start ["one", "other"] [a0, a1] = [some a0, some a1] := rfl
theorem st_lowest {a0 a1 : V} : start ["top", "bottom", "share"] [a0, a1] = [some a0, some a1, none] := rfl
theorem st_fraction {a0 a1 : V} : start ["top", "bottom"] [a0, a1] = [some a0, some a1] := rfl
theorem st_whole_in {a0 a1 : V} : start ["word", "most", "sign"] [a0, a1] = [some a0, some a1, none] := rfl
theorem st_fraction_in {a0 a1 : V} : start ["word", "most", "figures", "numbers", "one", "part"] [a0, a1] = [some a0, some a1, none, none, none, none] := rfl
theorem st_read_fraction {a0 : V} : start ["text", "one"] [a0] = [some a0, none] := rfl
theorem st_law_pool {a0 a1 : V} : start ["_law_script", "_law_k", "_law_cell", "_law_seed"] [a0, a1] = [some a0, some a1, none, none] := rfl
theorem st_law_take {a0 a1 : V} : start ["_law_pool_here", "_law_many", "_law_found"] [a0, a1] = [some a0, some a1, none] := rfl
theorem st_law_low {a0 a1 : V} : start ["_law_top", "_law_bottom", "_law_one", "_law_other"] [a0, a1] = [some a0, some a1, none, none] := rfl
theorem st_law_great {a0 : V} : start ["_law_pool_here", "_law_found", "_law_k"] [a0] = [some a0, none, none] := rfl
theorem st_law_odd {a0 a1 : V} : start ["_law_pool_here", "_law_one", "_law_top", "_law_bottom", "_law_both", "_law_some"] [a0, a1] = [some a0, some a1, none, none, none, none] := rfl
theorem st_law_is_refused {a0 : V} : start ["_law_thing", "_law_error", "e"] [a0] = [some a0, none, none] := rfl
theorem st_law {a0 : V} : start ["_law_script", "_law_k", "_law_pool_here", "_law_top", "_law_bottom", "_law_thing", "_law_one", "_law_text"] [a0] = [some a0, none, none, none, none, none, none, none] := rfl
abbrev si_NoTongue : Stmt := (Z.clsB (top 11)).getD 0 (.Pass ⟨0, 0, 0, 0⟩)
theorem sti_NoTongue {a0 a1 : V} : start ["self", "part"] [a0, a1] = [some a0, some a1] := rfl
theorem sci_NoTongue : FnScope ["self", "part"] ["self", "part"] (defScope si_NoTongue) := ⟨rfl, rfl, rfl, by decide +kernel, rfl, by decide +kernel, by decide +kernel⟩
abbrev si_NoWants : Stmt := (Z.clsB (top 12)).getD 0 (.Pass ⟨0, 0, 0, 0⟩)
theorem sti_NoWants {a0 a1 : V} : start ["self", "number"] [a0, a1] = [some a0, some a1] := rfl
theorem sci_NoWants : FnScope ["self", "number"] ["self", "number"] (defScope si_NoWants) := ⟨rfl, rfl, rfl, by decide +kernel, rfl, by decide +kernel, by decide +kernel⟩
abbrev si_NoThing : Stmt := (Z.clsB (top 13)).getD 0 (.Pass ⟨0, 0, 0, 0⟩)
theorem sti_NoThing {a0 a1 : V} : start ["self", "place"] [a0, a1] = [some a0, some a1] := rfl
theorem sci_NoThing : FnScope ["self", "place"] ["self", "place"] (defScope si_NoThing) := ⟨rfl, rfl, rfl, by decide +kernel, rfl, by decide +kernel, by decide +kernel⟩
abbrev si_BadSign : Stmt := (Z.clsB (top 14)).getD 0 (.Pass ⟨0, 0, 0, 0⟩)
theorem sti_BadSign {a0 a1 : V} : start ["self", "place"] [a0, a1] = [some a0, some a1] := rfl
theorem sci_BadSign : FnScope ["self", "place"] ["self", "place"] (defScope si_BadSign) := ⟨rfl, rfl, rfl, by decide +kernel, rfl, by decide +kernel, by decide +kernel⟩
abbrev si_NoText : Stmt := (Z.clsB (top 15)).getD 0 (.Pass ⟨0, 0, 0, 0⟩)
theorem sti_NoText {a0 a1 : V} : start ["self", "row"] [a0, a1] = [some a0, some a1] := rfl
theorem sci_NoText : FnScope ["self", "row"] ["self", "row"] (defScope si_NoText) := ⟨rfl, rfl, rfl, by decide +kernel, rfl, by decide +kernel, by decide +kernel⟩
abbrev ecs : List Str := ["DearError", "NoNumber", "NoBook", "NoTree", "TooMany", "NoCount", "NoUndo", "NoTurn", "NoRow", "Unknown", "NoTongue", "NoWants", "NoThing", "BadSign", "NoText"]
abbrev ems : List (Str × Str) := [("NoTongue", "part"), ("NoWants", "number"), ("NoThing", "place"), ("BadSign", "place"), ("NoText", "row")]
abbrev ens : List Str := ["NoNumber", "NoBook", "NoTree", "TooMany", "NoCount", "NoUndo", "NoTurn", "NoRow", "Unknown"]
structure Txt (K : PySem.W.Frag) (mg : Str → Option Value) : Prop where
  ex : Z.Exs K mg "DearError" ecs ems ens
  i_NoTongue : Z.AtM K ("NoTongue", some "__init__") "__init__" "NoTongue.__init__" si_NoTongue
  i_NoWants : Z.AtM K ("NoWants", some "__init__") "__init__" "NoWants.__init__" si_NoWants
  i_NoThing : Z.AtM K ("NoThing", some "__init__") "__init__" "NoThing.__init__" si_NoThing
  i_BadSign : Z.AtM K ("BadSign", some "__init__") "__init__" "BadSign.__init__" si_BadSign
  i_NoText : Z.AtM K ("NoText", some "__init__") "__init__" "NoText.__init__" si_NoText
  d_is_whole : Z.At K mg "is_whole" "is_whole" s_is_whole []
  d_divisor : Z.At K mg "divisor" "divisor" s_divisor []
  d_lowest : Z.At K mg "lowest" "lowest" s_lowest []
  d_fraction : Z.At K mg "fraction" "fraction" s_fraction [.int 1]
  d_whole_in : Z.At K mg "whole_in" "whole_in" s_whole_in []
  d_fraction_in : Z.At K mg "fraction_in" "fraction_in" s_fraction_in []
  d_read_fraction : Z.At K mg "read_fraction" "read_fraction" s_read_fraction []
  d_law_pool : Z.At K mg "_law_pool" "_law_pool" s_law_pool []
  d_law_take : Z.At K mg "_law_take" "_law_take" s_law_take []
  d_law_low : Z.At K mg "_law_low" "_law_low" s_law_low []
  d_law_great : Z.At K mg "_law_great" "_law_great" s_law_great []
  d_law_odd : Z.At K mg "_law_odd" "_law_odd" s_law_odd []
  d_law_is_refused : Z.At K mg "_law_is_refused" "_law_is_refused" s_law_is_refused []
  d_law : Z.At K mg "law" "law" s_law []
  b_ValueError : mg "ValueError" = none
  b_abs : mg "abs" = none
  b_all : mg "all" = none
  b_bool : mg "bool" = none
  b_int : mg "int" = none
  b_isinstance : mg "isinstance" = none
  b_len : mg "len" = none
  b_max : mg "max" = none
  b_min : mg "min" = none
  b_range : mg "range" = none
  b_str : mg "str" = none
  c_FIGURES : ∃ u, mg "FIGURES" = some u ∧ RelV (.str "0123456789") u
  c_MOST_FIGURES : ∃ u, mg "MOST_FIGURES" = some u ∧ RelV (.int 60) u
  k_DearError : mg "DearError" = some (.ref (He.ga K "DearError"))
  k_NoNumber : mg "NoNumber" = some (.ref (He.ga K "NoNumber"))
  k_NoBook : mg "NoBook" = some (.ref (He.ga K "NoBook"))
  k_NoTree : mg "NoTree" = some (.ref (He.ga K "NoTree"))
  k_TooMany : mg "TooMany" = some (.ref (He.ga K "TooMany"))
  k_NoCount : mg "NoCount" = some (.ref (He.ga K "NoCount"))
  k_NoUndo : mg "NoUndo" = some (.ref (He.ga K "NoUndo"))
  k_NoTurn : mg "NoTurn" = some (.ref (He.ga K "NoTurn"))
  k_NoRow : mg "NoRow" = some (.ref (He.ga K "NoRow"))
  k_Unknown : mg "Unknown" = some (.ref (He.ga K "Unknown"))
  k_NoTongue : mg "NoTongue" = some (.ref (He.ga K "NoTongue"))
  k_NoWants : mg "NoWants" = some (.ref (He.ga K "NoWants"))
  k_NoThing : mg "NoThing" = some (.ref (He.ga K "NoThing"))
  k_BadSign : mg "BadSign" = some (.ref (He.ga K "BadSign"))
  k_NoText : mg "NoText" = some (.ref (He.ga K "NoText"))
section
variable {P : Program} {w : World} {K : PySem.W.Frag} {mg : Str → Option Value} {base : Heap}
/-! ### whole numbers -/
def sp_is_whole : Sp := fun vs H Q _ => ∃ i : Int, vs = [.int i] ∧ Q (.bl true) H
theorem ok_is_whole (T : Txt K mg) : Z.C0 P w K mg base 1 "is_whole" (sp_is_whole) := by
  refine T.d_is_whole.c0 sc_is_whole (fun vs H Q E h => ?_) (Z.bd0 fun _ _ _ _ _ _ us hl => match us, hl with | [_], _ => rfl) (fun f cdv A outer s H vs Q E hr h => ⟨_, (pss_one (ps_ret (pe_and (pe_callB (k_isi K) rfl T.b_isinstance (by decide +kernel) (pa_cons (pv 0) (pa_cons (pe_bltn (v := .ty "int") rfl T.b_int (by decide +kernel) rfl) pa_nil))) (pe_one (pe_not (pe_callB (k_isi K) rfl T.b_isinstance (by decide +kernel) (pa_cons (pv 0) (pa_cons (pe_bltn (v := .ty "bool") rfl T.b_bool (by decide +kernel) rfl) pa_nil)))))))), ?_⟩)
  · obtain ⟨i, rfl, _⟩ := h
    rfl
  · obtain ⟨i, rfl, q⟩ := h
    rw [st_is_whole]
    walk_at "st"
    walk_at "rd"
    exact q
/-! ### divisor -/
def sp_divisor : Sp := fun vs H Q _ => ∃ a b : Nat, vs = [.int a, .int b] ∧ Q (.int (Nat.gcd a b : Nat)) H
theorem ok_divisor (T : Txt K mg) : Z.C0 P w K mg base 1 "divisor" (sp_divisor) := by
  refine T.d_divisor.c0 sc_divisor (fun vs H Q E h => ?_) (Z.bd0 fun _ _ _ _ _ _ us hl => match us, hl with | [_, _], _ => rfl) (fun f cdv A outer s H vs Q E hr h => ⟨_, (pss_cons (ps_while PassesOwn.never (pt_cmpR op_gtI (pv 1) pe_int (nomark _))
  (pss_one (ps_par (i := 0) (j := 1) rfl sc_divisor.nd rfl rfl (by decide) rfl rfl (pa_cons (pv 1) (pa_cons (pe_op op_modP (pv 0) (pv 1)) pa_nil)) rfl)))
  (pss_one (ps_ret (pv 0)))), ?_⟩)
  · obtain ⟨a, b, rfl, _⟩ := h
    rfl
  · obtain ⟨a, b, rfl, q⟩ := h
    rw [st_divisor]
    walk_at "st"
    walk_at "rd"
    refine r_while (fun m σ H' => H' = H ∧ ∃ x y : Nat, σ = [some (.int x), some (.int y)] ∧ m = y ∧ Nat.gcd x y = Nat.gcd a b) b (by walk_at "mn") ⟨rfl, a, b, rfl, rfl, rfl⟩ ?_
    rintro m σ _ ⟨rfl, x, y, rfl, rfl, e⟩
    walk_at "rd"
    refine r_ite (fun h1 => ?_) (fun h1 => ?_)
    · walk_at "rd"
      exact ⟨x % m, Nat.mod_lt _ (by omega), rfl, m, x % m, rfl, rfl, (gcd_step (by omega)).trans e⟩
    · walk_at "rd"
      have : m = 0 := by omega
      subst this
      rw [Nat.gcd_zero_right] at e
      rw [e]
      exact q
/-! ### lowest, fraction -/
def lowV (t : Int) (b : Nat) : List V := [.int (t / (Nat.gcd b t.natAbs : Nat)), .int ((b : Int) / (Nat.gcd b t.natAbs : Nat))]
def sp_lowest : Sp := fun vs H Q _ => ∃ (t : Int) (b : Nat), vs = [.int t, .int b] ∧ 0 < b ∧ b < 10 ^ 60 ∧ ∀ p H', H p = none → Same H H' → H' p = some (.tup (lowV t b)) → Q (.ref p) H'
theorem div_ok {i : Int} {j n : Nat} (h0 : 0 < j) (h : j ≤ n) (hn : n < 10 ^ 60) : CDivP i j := by
  refine .inr (wide_div (b := 200) (by omega) ?_ (by decide) (by decide))
  have : (10 : Nat) ^ 60 < 2 ^ 200 := by decide
  show (j : Int).natAbs < 2 ^ 200
  rw [Int.natAbs_natCast]
  omega
theorem ok_lowest (T : Txt K mg) : Z.C0 P w K mg base 2 "lowest" (sp_lowest) := by
  refine T.d_lowest.c0 sc_lowest (fun vs H Q E h => ?_) (Z.bd0 fun _ _ _ _ _ _ us hl => match us, hl with | [_, _], _ => rfl) (fun f cdv A outer s H vs Q E hr h => ⟨_, (pss_cons (ps_set (i := 2) sc_lowest.nd rfl (Or.inl rfl) (pe_c0 (ok_divisor T) hr (by decide) rfl (pa_cons (pv 1) (pa_cons (pe_callB call_absP rfl T.b_abs (by decide +kernel) (pa_cons (pv 0) pa_nil)) pa_nil))))
  (pss_one (ps_ret (pe_tup (pa_cons (pe_op op_div (pv 0) (pv 2)) (pa_cons (pe_op op_div (pv 1) (pv 2)) pa_nil)))))), ?_⟩)
  · obtain ⟨t, b, rfl, _⟩ := h
    rfl
  · obtain ⟨t, b, rfl, hb, hb2, q⟩ := h
    rw [st_lowest]
    walk_at "st"
    walk_at "rd"
    refine ⟨b, t.natAbs, rfl, ?_⟩
    have g0 : 0 < Nat.gcd b t.natAbs := Nat.gcd_pos_of_pos_left _ hb
    have g1 : Nat.gcd b t.natAbs ≤ b := Nat.gcd_le_left _ hb
    walk_at "rd"
    refine r_div ?_ (div_ok g0 g1 hb2)
    walk_at "rd"
    refine r_div ?_ (div_ok g0 g1 hb2)
    walk_at "rd"
    exact q
def sp_fraction : Sp := sp_lowest
theorem ok_fraction (T : Txt K mg) : Z.C0 P w K mg base 3 "fraction" (sp_fraction) := by
  refine T.d_fraction.c0 sc_fraction (fun vs H Q E h => ?_) (Z.bd1 (by simp) fun _ _ _ _ _ _ _ us its hu hi => match us, its, hu, hi with | [_, _], [_], _, _ => ⟨_, rfl, rfl⟩) (fun f cdv A outer s H vs Q E hr h => ⟨_, (pss_cons (ps_if (PW.pt (pw_or (pt_not (pt_val (pe_c0 (ok_is_whole T) hr (by decide) rfl (pa_cons (pv 0) pa_nil)))) (pw_or (pt_not (pt_val (pe_c0 (ok_is_whole T) hr (by decide) rfl (pa_cons (pv 1) pa_nil)))) (pw_or1 (pt_cmpR (k_eqP K hr.units) (pv 1) pe_int (nomark _))))))
  (pss_one ps_never) pss_nil)
  (pss_cons (ps_if (pt_cmpR op_ltI (pv 1) pe_int (nomark _))
  (pss_one (ps_ret (pe_c0 (ok_lowest T) hr (by decide) rfl (pa_cons (pe_op op_subI pe_int (pv 0)) (pa_cons (pe_op op_subI pe_int (pv 1)) pa_nil))))) pss_nil)
  (pss_one (ps_ret (pe_c0 (ok_lowest T) hr (by decide) rfl (pa_cons (pv 0) (pa_cons (pv 1) pa_nil))))))), ?_⟩)
  · obtain ⟨t, b, rfl, _⟩ := h
    rfl
  · obtain ⟨t, b, rfl, hb, hb2, q⟩ := h
    rw [st_fraction]
    walk_at "st"
    walk_at "rd"
    refine ⟨_, rfl, ?_⟩
    walk_at "rd"
    refine ⟨_, rfl, ?_⟩
    walk_at "rd"
    refine r_dF (by omega) ?_
    walk_at "rd"
    refine r_dF (by omega) ?_
    walk_at "rd"
    exact ⟨t, b, rfl, hb, hb2, q⟩
/-! ### show_fraction -/
theorem log_of {n : Int} (h : n.natAbs < 10 ^ 60) : n.natAbs.log2 < 1920 := by
  have h2 : (10 : Nat) ^ 60 < 2 ^ 1920 := by decide
  by_cases h0 : n.natAbs = 0
  · rw [h0]
    decide
  · exact (Nat.log2_lt h0).mpr (by omega)
theorem int_len {n : Int} (h : n.natAbs < 10 ^ 60) : (S (intL n)).length ≤ 61 := by
  rw [M.S_len]
  unfold intL
  have := len60 h
  split
  · rw [List.length_cons]
    omega
  · omega
def oI : Option Nat → V
  | none => .non
  | some n => .int n
theorem all_map (l : List Nat) (p : Nat → Bool) : (l.map p).all id = l.all p := by
  rw [List.all_map]
  rfl
def sp_whole (K : PySem.W.Frag) : Sp := fun vs H Q _ => ∃ (l : List Nat) (m : Nat), vs = [.str (S l), .int m] ∧ m ≤ 640 ∧ l.length ≤ 100000 ∧ ∀ H', Same H H' → Q (oI (wholeIn l m)) H'
theorem ok_whole_in (T : Txt K mg) : Z.C0 P w K mg base 1 "whole_in" (sp_whole K) := by
  refine T.d_whole_in.c0 sc_whole_in (fun vs H Q E h => ?_) (Z.bd0 fun _ _ _ _ _ _ us hl => match us, hl with | [_, _], _ => rfl) (fun f cdv A outer s H vs Q E hr h => ⟨_, (pss_cons (ps_if (PW.pt (pw_or (pt_not (pt_chain op_leI op_leI pe_int (pe_callB (k_len K) rfl T.b_len (by decide +kernel) (pa_cons (pv 0) pa_nil)) (pv 1))) (pw_or1 (PW.pt (pw_and (pt_cmpR op_gtI (pe_callB (k_len K) rfl T.b_len (by decide +kernel) (pa_cons (pv 0) pa_nil)) pe_int (nomark _)) (pw_and1 (pt_cmpR (k_eqP K hr.units) (pe_ix (k_ix K) (pv 0) pe_int (fun _ _ => rfl)) pe_str (nomark _))))))))
  (pss_one (ps_ret pe_non)) pss_nil)
  (pss_cons (ps_if (pt_not (pt_val (pe_callB (k_all K rfl) rfl T.b_all (by decide +kernel) (pa_cons (pe_lc (own := [("sign", 2)]) rfl sc_whole_in.nd (pi_str (pv 0)) (blkOk_by (N := ["word", "most", "sign"]) (sc := defScope s_whole_in) (by decide +kernel)) (fun _ _ _ _ _ => (pg_name (i := 2) sc_whole_in.nd rfl (Or.inl rfl))) (fun _ _ _ _ _ => pts_nil) (fun _ _ _ _ _ => (pe_cmpR (k_inP K) (pv 2) (C8.pe_gc rfl T.c_FIGURES) (by rfl)))) pa_nil))))
  (pss_one (ps_ret pe_non)) pss_nil)
  (pss_one (ps_ret (pe_callTy call_intP rfl T.b_int (by decide +kernel) (pa_cons (pv 0) pa_nil)))))), ?_⟩)
  · obtain ⟨l, m, rfl, _⟩ := h
    rfl
  · obtain ⟨l, m, rfl, hm, hl, q⟩ := h
    rw [st_whole_in]
    walk_at "st"
    have el := M.S_len l
    have no : ∀ H', Same H H' → ¬ (1 ≤ l.length ∧ l.length ≤ m ∧ ¬ (1 < l.length ∧ l.head? = some 48) ∧ l.all digit = true) → Q .non H' := fun H' e h => by
      have := q H' e
      unfold wholeIn at this
      rw [if_neg h] at this
      exact this
    -- the rest, once the two first tests are passed
    have rest : ∀ (hh : 1 ≤ l.length ∧ l.length ≤ m ∧ ¬ (1 < l.length ∧ l.head? = some 48)), tSeq (tIfS (tNot (tB (tCB (rAll K) (tCons (tLc (iStr (tVar 0)) (gName 2) tYes (tOp (rInP K false) (tVar 2) (tC (V.str (Str.ofString "0123456789")))) [2]) tNil)))) (tRet (tC V.non)) tNext)
        (tRet (tCB cInt (tCons (tVar 0) tNil))) { nx := fun _ H' => Q V.non H', rt := Q } [some (V.str (S l)), some (V.int m), none] H := by
      intro hh
      walk_at "rd"
      refine lcW walk_str (fun i acc _ => acc = ((l.take i).map digit).map V.bl) rfl (fun _ _ => trivial) (fun _ _ => rfl) ?_ ?_
      · rintro i x acc Dl H1 _ hi hD e1 e2 hl2 rfl ⟨rfl, c, hc, rfl⟩
        walk_at "rd"
        rw [fig_mem]
        have hc2 : l[i]? = some c := by simpa [S] using hc
        refine lc_put (by have := (List.getElem?_eq_some_iff.mp hc2).1; omega) hD e1 e2 hl2 fun H5 _ _ => ?_
        rw [List.take_add_one, hc2]
        simp
      · rintro acc Dl H1 hD e1 e2 rfl
        have en : (S l).cps.size = l.length := by simp [S]
        rw [en, List.take_length] at e2
        walk_at "rd"
        refine r_all (sqL e2) ?_
        rw [all_map]
        walk_at "rd"
        cases hd : l.all digit with
        | false =>
          walk_at "rd"
          exact no H1 e1 (fun z => by rw [hd] at z; exact absurd z.2.2.2 (by decide))
        | true =>
          walk_at "rd"
          have en2 : PySem.intText? (S l) = some ((NumText.digitsVal l : Nat) : Int) := int_S (by
            rw [← hd]
            congr 1
            funext c
            unfold digit
            simp) (by
            intro z
            rw [z] at hh
            simp at hh) (by omega)
          refine r_intS en2 ?_ (by omega)
          have := q H1 e1
          unfold wholeIn at this
          rw [if_pos ⟨hh.1, hh.2.1, hh.2.2, hd⟩] at this
          exact this
    walk_at "rd"
    refine r_ite (fun h1 => ?_) (fun h1 => ?_)
    · walk_at "rd"
      refine r_nite (fun h2 => ?_) (fun h2 => ?_)
      · walk_at "rd"
        exact no H (Same.refl _) (by omega)
      · walk_at "rd"
        refine r_ite (fun h3 => ?_) (fun h3 => ?_)
        · walk_at "rd"
          obtain ⟨c, r, rfl⟩ : ∃ c r, l = c :: r := by
            cases l with
            | nil => simp at el; omega
            | cons c r => exact ⟨c, r, rfl⟩
          refine r_ixS (c := c) (szl (by omega)) (atI_nat (j := 0) rfl) ?_
          walk_at "rd"
          refine r_ite (fun h4 => ?_) (fun h4 => ?_)
          · walk_at "rd"
            refine no H (Same.refl _) (fun z => z.2.2.1 ⟨by omega, ?_⟩)
            have : S [c] = S [48] := h4.trans (by decide +kernel)
            exact congrArg some (List.cons.inj (SX.S_inj this)).1
          · refine rest ⟨by omega, by omega, fun z => h4 ?_⟩
            have : c = 48 := Option.some.inj z.2
            rw [this]
            decide +kernel
        · exact rest ⟨by omega, by omega, fun z => by omega⟩
    · walk_at "rd"
      exact no H (Same.refl _) (by omega)
end
end My

namespace My
open PySem PySem.Spec PyProof.Rows L2 Z M SX TL
section
variable {P : Program} {w : World} {K : PySem.W.Frag} {mg : Str → Option Value} {base : Heap}
/-! ### fraction_in -/
theorem val_fold : ∀ (l : List Nat) (a : Nat), l.all digit = true → l.foldl (fun acc c => acc * 10 + (c - 48)) a < (a + 1) * 10 ^ l.length
  | [], a, _ => by simp
  | c :: r, a, h => by
    rw [List.all_cons, Bool.and_eq_true] at h
    have hc : 48 ≤ c ∧ c ≤ 57 := of_decide_eq_true h.1
    have ih := val_fold r (a * 10 + (c - 48)) h.2
    rw [List.foldl_cons, List.length_cons, Nat.pow_succ]
    refine Nat.lt_of_lt_of_le ih ?_
    rw [Nat.mul_comm (10 ^ r.length) 10, ← Nat.mul_assoc]
    exact Nat.mul_le_mul_right _ (by omega)
theorem whole_lt {l : List Nat} {m n : Nat} (h : wholeIn l m = some n) (hm : m ≤ 60) : n < 10 ^ 60 := by
  unfold wholeIn at h
  split at h
  · rename_i c
    have e : NumText.digitsVal l = n := Option.some.inj h
    have := val_fold l 0 c.2.2.2
    rw [Nat.zero_add, Nat.one_mul] at this
    rw [← e]
    exact Nat.lt_of_lt_of_le this (Nat.pow_le_pow_right (by decide) (by omega))
  · cases h
theorem cut_1 (l : List Nat) : cutS (S l) none (some 1) = S (l.take 1) := by
  unfold cutS
  rw [show HT.sIx (S l).length (S l).length (some 1) = min 1 (S l).length from HT.sIx_nat _ _ 1, HT.sIx_none, M.S_len]
  refine ext_tl ?_
  show List.take (min 1 l.length - 0) (List.drop 0 l) = List.take 1 l
  rw [List.drop_zero]
  cases l with
  | nil => rfl
  | cons a r =>
    rw [show min 1 (a :: r).length - 0 = 1 by rw [List.length_cons]; omega]
theorem cut_2 (l : List Nat) : cutS (S l) (some 1) none = S (l.drop 1) := by
  unfold cutS
  rw [show HT.sIx (S l).length 0 (some 1) = min 1 (S l).length from HT.sIx_nat _ _ 1, HT.sIx_none, M.S_len]
  refine ext_tl ?_
  show List.take (l.length - min 1 l.length) (List.drop (min 1 l.length) l) = List.drop 1 l
  cases l with
  | nil => rfl
  | cons a r =>
    rw [show min 1 (a :: r).length = 1 by rw [List.length_cons]; omega]
    exact List.take_of_length_le (by rw [List.length_drop]; exact Nat.le_refl _)
theorem neg_test (l : List Nat) : (S (l.take 1) = Str.ofString "-") ↔ isNeg l = true := by
  rw [show Str.ofString "-" = S [45] by decide +kernel]
  unfold isNeg
  rw [decide_eq_true_eq]
  cases l with
  | nil =>
    constructor
    · intro h
      have := SX.S_inj h
      cases this
    · intro h
      cases h
  | cons a r =>
    constructor
    · intro h
      have := SX.S_inj h
      exact congrArg some (List.cons.inj this).1
    · intro h
      have : a = 45 := Option.some.inj h
      rw [this]
      rfl
theorem spl_len : ∀ (L acc : List Nat), (spl [47] 0 acc L).length ≤ L.length + 1
  | [], acc => by rw [spl_nil]; simp
  | c :: r, acc => by
    cases e : pre [47] (c :: r) with
    | true =>
      rw [spl_hit e, List.length_cons, List.length_cons]
      have := spl_len r []
      exact Nat.succ_le_succ this
    | false =>
      rw [spl_miss e, List.length_cons]
      have := spl_len r (acc ++ [c])
      omega
theorem split_S (l : List Nat) : Txt.split (S l) (Str.ofString "/") = (spl [47] 0 [] l).map S := by
  have e : tl (Str.ofString "/") = [47] := by decide +kernel
  have h := split_spl (S l) (Str.ofString "/") (by rw [e]; simp) (kind_ok (by decide +kernel))
  rw [e] at h
  refine map_tl_inj ?_
  rw [h, List.map_map]
  have : (tl ∘ S) = id := rfl
  rw [this, List.map_id]
theorem spl_part_len : ∀ (L acc : List Nat) p, p ∈ spl [47] 0 acc L → p.length ≤ acc.length + L.length
  | [], acc, p, h => by
    rw [spl_nil, List.mem_singleton] at h
    rw [h]
    omega
  | c :: r, acc, p, h => by
    cases e : pre [47] (c :: r) with
    | true =>
      rw [spl_hit e] at h
      rcases List.mem_cons.mp h with h | h
      · rw [h]
        omega
      · have := spl_part_len r [] p h
        rw [List.length_nil] at this
        rw [List.length_cons]
        omega
    | false =>
      rw [spl_miss e] at h
      have := spl_part_len r (acc ++ [c]) p h
      rw [List.length_append, List.length_singleton] at this
      rw [List.length_cons]
      omega
theorem figs_len (l : List Nat) : (figs l).length ≤ l.length := by
  unfold figs
  split
  · rw [List.length_tail]
    omega
  · exact Nat.le_refl _
def resQ (r : Option (Int × Nat)) (H : Hp) (Q : VK) : Prop := match r with
  | none => ∀ H', Same H H' → Q .non H'
  | some (n, d) => ∀ p H', H p = none → Same H H' → H' p = some (.tup [.int n, .int d]) → Q (.ref p) H'
def sp_fracin (K : PySem.W.Frag) : Sp := fun vs H Q _ => ∃ (l : List Nat) (m : Nat), vs = [.str (S l), .int m] ∧ m ≤ 60 ∧ l.length ≤ 3000 ∧ resQ (fracIn l m) H Q
theorem spl_ne : ∀ (L acc : List Nat), spl [47] 0 acc L ≠ []
  | [], acc => by rw [spl_nil]; simp
  | c :: r, acc => by
    cases e : pre [47] (c :: r) with
    | true => rw [spl_hit e]; simp
    | false =>
      rw [spl_miss e]
      exact spl_ne r _
theorem inV_non (ns : List (Option Nat)) : inV .non (ns.map oI) = ns.any (·.isNone) := by
  unfold inV
  rw [List.any_map]
  congr 1
  funext x
  cases x <;> rfl
theorem flat_oI (ns : List (Option Nat)) : (ns.map oI).all flatV = true := by
  rw [List.all_map, List.all_eq_true]
  intro x _
  cases x <;> rfl
theorem fracOf_none {neg : Bool} {ns : List (Option Nat)} (h : ns.any (·.isNone) = true) : fracOf neg ns = none := by
  match ns, h with
  | [none], _ => rfl
  | [none, none], _ => rfl
  | [none, some _], _ => rfl
  | [some _, none], _ => rfl
  | a :: b :: _ :: _, _ => cases a <;> cases b <;> rfl
theorem fracOf_long {neg : Bool} {ns : List (Option Nat)} (h : 2 < ns.length) : fracOf neg ns = none := by
  match ns, h with
  | a :: b :: _ :: _, _ => cases a <;> cases b <;> rfl
theorem eqv2 (a b c d : Int) : PyData.eqv (.tuple [.int a, .int b]) (.tuple [.int c, .int d]) = decide (a = c ∧ b = d) := by
  show (a == c && (b == d && true)) = _
  rw [Bool.eq_iff_iff]
  simp
theorem figs_eq (l : List Nat) : (S (figs l) = S l) ↔ isNeg l = false := by
  unfold figs
  cases e : isNeg l with
  | false => simp
  | true =>
    rw [if_pos rfl]
    constructor
    · intro h
      have h := SX.S_inj h
      cases l with
      | nil => cases e
      | cons a r =>
        have := congrArg List.length h
        simp at this
    · intro h
      cases h
theorem fin_frac {D : Ends} {σ0 σ1 σ2 σ3 σ5 : Option V} {p : Addr} {H : Hp} {t : Int} {b : Nat} (hp : H p = some (.tup [.int t, .int b])) (hb : 0 < b) (hb2 : b < 10 ^ 60)
    (q1 : Nat.gcd b t.natAbs = 1 → ∀ H', Same H H' → D.rt (.ref p) H') (q2 : Nat.gcd b t.natAbs ≠ 1 → ∀ H', Same H H' → D.rt .non H') :
    tSeq (tIfS (tTest (tOp (rNeP K) (tCall sp_fraction [] E0 (tCons (tOp (rIx K) (tVar 4) (tC (.int 0))) (tCons (tOp (rIx K) (tVar 4) (tC (.int 1))) tNil))) (tVar 4))) (tRet (tC .non)) tNext) (tRet (tVar 4)) D [σ0, σ1, σ2, σ3, some (.ref p), σ5] H := by
  walk_at "rd"
  refine ⟨t, b, rfl, hb, hb2, fun p3 H3 h3 e3 e4 => ?_⟩
  unfold lowV at e4
  walk_at "rd"
  refine r_neD (d := .tuple [.int (t / (Nat.gcd b t.natAbs : Nat)), .int ((b : Int) / (Nat.gcd b t.natAbs : Nat))]) (e := .tuple [.int t, .int b]) (.tup (sqT e4) (by walk_at "lk")) (by walk_at "lk") ?_ rfl rfl
  rw [eqv2]
  have g0 : 0 < Nat.gcd b t.natAbs := Nat.gcd_pos_of_pos_left _ hb
  walk_at "rd"
  by_cases hg : Nat.gcd b t.natAbs = 1
  · refine r_ndT (by rw [hg]; simp) ?_
    walk_at "rd"
    exact q1 hg H3 (by walk_at "sm")
  · refine r_ndF (fun z => hg ?_) ?_
    · have z2 := z.2
      have e : ((b / Nat.gcd b t.natAbs : Nat) : Int) = b := z2
      have e2 : b / Nat.gcd b t.natAbs = b := by omega
      rcases Nat.lt_or_ge (Nat.gcd b t.natAbs) 2 with h | h
      · omega
      · have := Nat.div_lt_self hb h
        omega
    · walk_at "rd"
      exact q2 hg H3 (by walk_at "sm")
theorem resQ_up {r : Option (Int × Nat)} {H H' : Hp} {Q : VK} (e : Same H H') (q : resQ r H Q) : resQ r H' Q := by
  cases r with
  | none => exact fun H2 e2 => q H2 (e.trans e2)
  | some x => exact fun p H2 hp e2 h => q p H2 (e.free hp) (e.trans e2) h
theorem fin2 {D : Ends} {l : List Nat} {m a b : Nat} {Dl : Addr} {xs : List V} {H : Hp} {σ3 σ5 : Option V} (e5 : H Dl = some (.lst xs)) (h0 : atI xs 0 = some (.int a)) (h1 : atI (xs ++ [.int 1]) 1 = some (.int b)) (hl : xs.length ≤ 2) (hb : 0 < b) (hb2 : b < 10 ^ 60)
    (q : resQ (if Nat.gcd b a = 1 then some (sgn (isNeg l) a, b) else none) H D.rt) :
    tSeq (tAsg (tTup (tCons (tOp (rIx K) (tVar 3) (tC (V.int 0))) (tCons (tOp (rIx K) (tOp (rAddP K) (tVar 3) (tLst (tCons (tC (V.int 1)) tNil))) (tC (V.int 1))) tNil))) (gName 4))
            (Evl.tCut (tIfS (tTest (tOp (rNeP K) (tVar 2) (tVar 0))) (tAsg (tTup (tCons (tOp Z.rSub (tC (V.int 0)) (tOp (rIx K) (tVar 4) (tC (V.int 0)))) (tCons (tOp (rIx K) (tVar 4) (tC (V.int 1))) tNil))) (gName 4)) tNext)
            (tSeq (tIfS (tTest (tOp (rNeP K) (tCall sp_fraction [] E0 (tCons (tOp (rIx K) (tVar 4) (tC (.int 0))) (tCons (tOp (rIx K) (tVar 4) (tC (.int 1))) tNil))) (tVar 4))) (tRet (tC .non)) tNext) (tRet (tVar 4))))
            D [some (V.str (S l)), some (V.int ↑m), some (V.str (S (figs l))), some (V.ref Dl), σ3, σ5] H := by
  walk_at "rd"
  intro p2 H2 hp2 e2 f2
  walk_at "rd"
  intro p3 H3 hp3 e3 f3
  walk_at "rd"
  intro p4 H4 hp4 e4 f4
  have fin : ∀ (p : Addr) (H5 : Hp), H p = none → Same H H5 → H5 p = some (.tup [.int (sgn (isNeg l) a), .int b]) → tSeq (tIfS (tTest (tOp (rNeP K) (tCall sp_fraction [] E0 (tCons (tOp (rIx K) (tVar 4) (tC (.int 0))) (tCons (tOp (rIx K) (tVar 4) (tC (.int 1))) tNil))) (tVar 4))) (tRet (tC .non)) tNext) (tRet (tVar 4))
      D [some (V.str (S l)), some (V.int ↑m), some (V.str (S (figs l))), some (V.ref Dl), some (V.ref p), σ5] H5 := fun p H5 hp e f => by
    have hn : (sgn (isNeg l) a).natAbs = a := by
      unfold sgn
      split <;> omega
    refine fin_frac f hb hb2 (fun hg H' e' => ?_) (fun hg H' e' => ?_)
    · rw [hn] at hg
      rw [if_pos hg] at q
      exact q p H' hp (by walk_at "sm") (by walk_at "lk")
    · rw [hn] at hg
      rw [if_neg hg] at q
      exact q H' (by walk_at "sm")
  walk_at "rd"
  refine r_cut (fun σ' H' => ∃ p, H p = none ∧ Same H H' ∧ H' p = some (.tup [.int (sgn (isNeg l) a), .int b]) ∧ σ' = [some (V.str (S l)), some (V.int ↑m), some (V.str (S (figs l))), some (V.ref Dl), some (V.ref p), σ5]) ?_ ?_
  · walk_at "rd"
    refine r_nite (fun h => ?_) (fun h => ?_)
    · walk_at "rd"
      intro p5 H5 hp5 e5 f5
      walk_at "rd"
      have : isNeg l = true := by
        cases e : isNeg l with
        | true => rfl
        | false => exact absurd ((figs_eq l).mpr e) h
      refine ⟨p5, by walk_at "fn", by walk_at "sm", ?_, rfl⟩
      rw [this]
      have e : sgn true a = 0 - (a : Int) := by
        show -(a : Int) = _
        omega
      rw [e]
      exact f5
    · walk_at "rd"
      have : isNeg l = false := (figs_eq l).mp h
      refine ⟨p4, by walk_at "fn", by walk_at "sm", ?_, rfl⟩
      rw [this]
      exact f4
  · rintro σ' H' ⟨p, hp, e, f, rfl⟩
    exact fin p H' hp e f
theorem ok_fraction_in (T : Txt K mg) : Z.C0 P w K mg base 4 "fraction_in" (sp_fracin K) := by
  refine T.d_fraction_in.c0 sc_fraction_in (fun vs H Q E h => ?_) (Z.bd0 fun _ _ _ _ _ _ us hl => match us, hl with | [_, _], _ => rfl) (fun f cdv A outer s H vs Q E hr h => ⟨_, (pss_cons (ps_set (i := 2) sc_fraction_in.nd rfl (Or.inl rfl) (pv 0))
  (Evl.pss_cut (ps_if (pt_cmpR (k_eqP K hr.units) (pe_slice (k_sl K) (pv 0) po_none (po_some pe_int)) pe_str (nomark _))
  (pss_one (ps_set (i := 2) sc_fraction_in.nd rfl (Or.inl rfl) (pe_slice (k_sl K) (pv 0) (po_some pe_int) po_none))) pss_nil)
  (pss_cons (ps_setLc (i := 3) (own := [("part", 5)]) rfl sc_fraction_in.nd rfl rfl (sw_true rfl rfl rfl (by decide +kernel)) (k_iL K (k_bm K PySem.F.plainAttrs_str PySem.F.slot_str_split PySem.F.type_str_split mt_splitP (pv 2) (pa_cons pe_str pa_nil))) (blkOk_by (N := ["word", "most", "figures", "numbers", "one", "part"]) (sc := defScope s_fraction_in) (by decide +kernel)) (fun _ _ _ _ _ => (pg_name (i := 5) sc_fraction_in.nd rfl (Or.inl rfl))) (fun _ _ _ _ _ => pts_nil) (fun _ _ _ _ _ => (pe_c0 (ok_whole_in T) hr (by decide) rfl (pa_cons (pv 5) (pa_cons (pv 1) pa_nil)))))
  (pss_cons (ps_if (PW.pt (pw_or (pt_cmpR (k_inP K) pe_non (pv 3) (by rfl)) (pw_or1 (pt_cmpR op_gtI (pe_callB (k_len K) rfl T.b_len (by decide +kernel) (pa_cons (pv 3) pa_nil)) pe_int (nomark _)))))
  (pss_one (ps_ret pe_non)) pss_nil)
  (pss_cons (ps_if (PW.pt (pw_or (PW.pt (pw_and (pt_cmpR (k_eqP K hr.units) (pe_callB (k_len K) rfl T.b_len (by decide +kernel) (pa_cons (pv 3) pa_nil)) pe_int (nomark _)) (pw_and1 (pt_cmpR op_ltI (pe_ix (k_ix K) (pv 3) pe_int (fun _ _ => rfl)) pe_int (nomark _))))) (pw_or1 (PW.pt (pw_and (pt_cmpR (k_neP K hr.units) (pv 2) (pv 0) (nomark _)) (pw_and1 (pt_cmpR (k_eqP K hr.units) (pe_ix (k_ix K) (pv 3) pe_int (fun _ _ => rfl)) pe_int (nomark _))))))))
  (pss_one (ps_ret pe_non)) pss_nil)
  (pss_cons (ps_set (i := 4) sc_fraction_in.nd rfl (Or.inl rfl) (pe_tup (pa_cons (pe_ix (k_ix K) (pv 3) pe_int (fun _ _ => rfl)) (pa_cons (pe_ix (k_ix K) (pe_op (k_addP K) (pv 3) (pe_lst (pa_cons pe_int pa_nil))) pe_int (fun _ _ => rfl)) pa_nil))))
  (Evl.pss_cut (ps_if (pt_cmpR (k_neP K hr.units) (pv 2) (pv 0) (nomark _))
  (pss_one (ps_set (i := 4) sc_fraction_in.nd rfl (Or.inl rfl) (pe_tup (pa_cons (pe_op op_subI pe_int (pe_ix (k_ix K) (pv 4) pe_int (fun _ _ => rfl))) (pa_cons (pe_ix (k_ix K) (pv 4) pe_int (fun _ _ => rfl)) pa_nil))))) pss_nil)
  (pss_cons (ps_if (pt_cmpR (k_neP K hr.units) (pe_c0 (ok_fraction T) hr (by decide) rfl (pa_cons (pe_ix (k_ix K) (pv 4) pe_int (fun _ _ => rfl)) (pa_cons (pe_ix (k_ix K) (pv 4) pe_int (fun _ _ => rfl)) pa_nil))) (pv 4) (nomark _))
  (pss_one (ps_ret pe_non)) pss_nil)
  (pss_one (ps_ret (pv 4))))))))))), ?_⟩)
  · obtain ⟨l, m, rfl, _⟩ := h
    rfl
  · obtain ⟨l, m, rfl, hm, hl, q⟩ := h
    rw [st_fraction_in]
    walk_at "st"
    have el := M.S_len l
    walk_at "rd"
    refine r_cut (fun σ' H' => H' = H ∧ σ' = [some (.str (S l)), some (.int m), some (.str (S (figs l))), none, none, none]) ?_ ?_
    · walk_at "rd"
      rw [cut_1]
      refine r_ite (fun h1 => ?_) (fun h1 => ?_)
      · rw [neg_test] at h1
        walk_at "rd"
        rw [cut_2]
        refine ⟨rfl, ?_⟩
        unfold figs
        rw [if_pos h1]
        simp
      · rw [neg_test] at h1
        walk_at "rd"
        refine ⟨rfl, ?_⟩
        unfold figs
        rw [if_neg h1]
    rintro σ' _ ⟨rfl, rfl⟩
    have fl := figs_len l
    have el2 := M.S_len (figs l)
    walk_at "rd"
    rintro p1 H1 hp1 e1 e2
    rw [split_S] at e2
    have sl := spl_len (figs l) []
    walk_at "rd"
    refine lcW (walk_list (xs := ((spl [47] 0 [] (figs l)).map S).map V.str)) (fun i acc _ => acc = (((spl [47] 0 [] (figs l)).take i).map fun p => oI (wholeIn p m))) rfl (fun H' e => by walk_at "lk") (fun _ _ => rfl) ?_ ?_
    · rintro i x acc Dl H2 _ hi hD e3 e4 hl2 rfl ⟨rfl, hx⟩
      obtain ⟨pt, hpt, rfl⟩ : ∃ pt, (spl [47] 0 [] (figs l))[i]? = some pt ∧ x = .str (S pt) := by
        rw [List.getElem?_map, List.getElem?_map] at hx
        cases e : (spl [47] 0 [] (figs l))[i]? with
        | none =>
          rw [e] at hx
          cases hx
        | some pt =>
          rw [e] at hx
          exact ⟨pt, rfl, (Option.some.inj hx).symm⟩
      walk_at "rd"
      have hlp := spl_part_len _ _ _ (List.mem_of_getElem? hpt)
      rw [List.length_nil] at hlp
      refine ⟨pt, m, rfl, by omega, by omega, fun H3 e5 => ?_⟩
      simp only [List.length_map] at hi
      refine lc_put (by omega) hD (by walk_at "sm") (by walk_at "lk") hl2 fun H5 _ _ => ?_
      rw [List.take_add_one, hpt]
      simp
    · rintro acc Dl H2 hD e3 e4 rfl
      rw [List.length_map, List.length_map, List.take_length] at e4
      have e5 : H2 Dl = some (.lst ((numsIn l m).map oI)) := by
        rw [e4]
        unfold numsIn
        rw [List.map_map]
        rfl
      have hne : numsIn l m ≠ [] := fun z => spl_ne _ _ (List.map_eq_nil_iff.mp z)
      have hwl : ∀ n, some n ∈ numsIn l m → n < 10 ^ 60 := fun n hn => by
        obtain ⟨pt, _, e⟩ := List.mem_map.mp hn
        exact whole_lt e hm
      unfold fracIn at q
      revert e5 q hne hwl
      generalize numsIn l m = ns
      intro q e5 hne hwl
      walk_at "rd"
      refine r_inL (sqL e5) ?_ rfl (flat_oI ns)
      rw [inV_non]
      walk_at "rd"
      refine r_bite (fun h1 => ?_) (fun h1 => ?_)
      · walk_at "rd"
        rw [fracOf_none h1] at q
        exact q H2 (by walk_at "sm")
      walk_at "rd"
      refine r_ite (fun h2 => ?_) (fun h2 => ?_)
      · walk_at "rd"
        rw [fracOf_long (by simp only [List.length_map] at h2; omega)] at q
        exact q H2 (by walk_at "sm")
      match ns, hne, h1, h2 with
      | [some a], _, _, _ =>
        have ha := hwl a (by simp)
        replace e5 : H2 Dl = some (.lst [.int a]) := e5
        walk_at "rd"
        refine r_dF (by simp) ?_
        walk_at "rd"
        have q0 : ¬ (isNeg l = true ∧ a = 0) → resQ (if Nat.gcd 1 a = 1 then some (sgn (isNeg l) a, 1) else none) H2 Q := fun z => by
          have e : fracOf (isNeg l) [some a] = some (sgn (isNeg l) a, 1) := if_neg z
          rw [if_pos (Nat.gcd_one_left a), ← e]
          exact resQ_up (by walk_at "sm") q
        refine r_nite (fun h3 => ?_) (fun h3 => ?_)
        · have hneg : isNeg l = true := by
            cases e : isNeg l with
            | true => rfl
            | false => exact absurd ((figs_eq l).mpr e) h3
          walk_at "rd"
          refine r_ite (fun h4 => ?_) (fun h4 => ?_)
          · walk_at "rd"
            have e : fracOf (isNeg l) [some a] = none := if_pos ⟨hneg, by omega⟩
            rw [e] at q
            exact q H2 (by walk_at "sm")
          · exact fin2 e5 rfl rfl (by simp) (by decide) (by decide) (q0 (by omega))
        · have hneg : isNeg l = false := (figs_eq l).mp h3
          exact fin2 e5 rfl rfl (by simp) (by decide) (by decide) (q0 (by rw [hneg]; simp))
      | [some a, some b], _, _, _ =>
        have ha := hwl a (by simp)
        have hb := hwl b (by simp)
        replace e5 : H2 Dl = some (.lst [.int a, .int b]) := e5
        walk_at "rd"
        refine r_dT (by simp) ?_
        walk_at "rd"
        refine r_ite (fun h3 => ?_) (fun h3 => ?_)
        · walk_at "rd"
          have e : fracOf (isNeg l) [some a, some b] = none := if_pos (.inl (by omega))
          rw [e] at q
          exact q H2 (by walk_at "sm")
        have q0 : ¬ (isNeg l = true ∧ a = 0) → resQ (if Nat.gcd b a = 1 then some (sgn (isNeg l) a, b) else none) H2 Q := fun z => by
          have e : fracOf (isNeg l) [some a, some b] = if Nat.gcd b a = 1 then some (sgn (isNeg l) a, b) else none := if_neg (fun z' => z'.elim (by omega) z)
          rw [← e]
          exact resQ_up (by walk_at "sm") q
        walk_at "rd"
        refine r_nite (fun h4 => ?_) (fun h4 => ?_)
        · have hneg : isNeg l = true := by
            cases e : isNeg l with
            | true => rfl
            | false => exact absurd ((figs_eq l).mpr e) h4
          walk_at "rd"
          refine r_ite (fun h5 => ?_) (fun h5 => ?_)
          · walk_at "rd"
            have e : fracOf (isNeg l) [some a, some b] = none := if_pos (.inr ⟨hneg, by omega⟩)
            rw [e] at q
            exact q H2 (by walk_at "sm")
          · exact fin2 e5 rfl rfl (by simp) (by omega) hb (q0 (by omega))
        · have hneg : isNeg l = false := (figs_eq l).mp h4
          exact fin2 e5 rfl rfl (by simp) (by omega) hb (q0 (by rw [hneg]; simp))
      | [none], _, h1, _ => cases h1
      | [none, none], _, h1, _ => cases h1
      | [none, some _], _, h1, _ => cases h1
      | [some _, none], _, h1, _ => cases h1
      | _ :: _ :: _ :: _, _, _, h2 => simp at h2; omega
end
end My

namespace My
open PySem PySem.Spec PyProof.Rows L2 Z M SX TL
section
variable {P : Program} {w : World} {K : PySem.W.Frag} {mg : Str → Option Value} {base : Heap}
theorem oki_NoText (T : Txt K mg) : Z.Oi P w K mg base "NoText" "row" := by
  refine T.i_NoText.oi sci_NoText (fun _ _ _ _ _ _ us hl => match us, hl with | [_, _], _ => rfl) (fun cdv A outer s H vs Q E hr h => ⟨_, (pss_cons (ps_expr (pe_dearI rfl T.k_DearError T.ex.d (pa_cons (pv 0) (pa_cons (pe_joined (PJ.cons pe_str (PJ.cons (pe_fmtN (pv 1)) PJ.nil))) pa_nil))))
  (pss_one (ps_ost (pv 0) (pv 1)))), ?_⟩)
  obtain ⟨a, y, rfl, ha, hf, q⟩ := h
  rw [sti_NoText]
  walk_at "st"
  walk_at "rd"
  refine r_fmtNV hf (fun z hz => ?_)
  refine r_jsV (by decide) hz (fun z => ?_)
  walk_at "rd"
  refine ⟨a, _, _, rfl, by simp, (T.ex.i ("NoText", "row") (by simp)).oe, ha, ?_⟩
  walk_at "rd"
  exact ⟨a, _, rfl, (T.ex.i ("NoText", "row") (by simp)).oe, (T.ex.i ("NoText", "row") (by simp)).no, Or.inl ⟨ha, fun d h1 h2 => q d h1 h2⟩⟩
/-! ### read_fraction -/
/-- no text of a fraction -/
def NoFr (x : V) (H : Hp) : Prop := (∃ l : List Nat, x = .str (S l) ∧ l.length ≤ 3000 ∧ fracIn l 60 = none) ∨ x = .non ∨ (∃ i, x = .int i) ∨ (∃ b, x = .bl b) ∨ (∃ p xs, x = .ref p ∧ H p = some (.lst xs)) ∨ (∃ p xs, x = .ref p ∧ H p = some (.tup xs)) ∨ ∃ p xs, x = .ref p ∧ H p = some (.dK xs)
def rais (K : PySem.W.Frag) (c f : Str) (y : V) (H : Hp) (E : XK) : Prop := ∀ d H', H d = none → Same H H' → H' d = some (.xd [(f, y)]) → E (.ref (He.ga K c)) (some d) H'
def sp_read (K : PySem.W.Frag) : Sp := fun vs H Q E => ∃ x, vs = [x] ∧ ((∃ (l : List Nat) (n : Int) (d : Nat), x = .str (S l) ∧ l.length ≤ 3000 ∧ fracIn l 60 = some (n, d) ∧ ∀ p H', H p = none → Same H H' → H' p = some (.tup [.int n, .int d]) → Q (.ref p) H') ∨
  (NoFr x H ∧ rais K "NoText" "row" (.int 0) H E))
theorem ok_read_fraction (T : Txt K mg) : Z.CE P w K mg base 5 "read_fraction" (sp_read K) := by
  refine T.d_read_fraction.ce sc_read_fraction (fun vs H Q E h => ?_) (Z.bd0 fun _ _ _ _ _ _ us hl => match us, hl with | [_], _ => rfl) (fun f cdv A outer s H vs Q E hr h => ⟨_, (pss_cons (ps_if (pt_not (pt_val (pe_callB (k_isi K) rfl T.b_isinstance (by decide +kernel) (pa_cons (pv 0) (pa_cons (pe_bltn (v := .ty "str") rfl T.b_str (by decide +kernel) rfl) pa_nil)))))
  (pss_one (ps_raiO K rfl (takes_of rfl rfl rfl rfl) (T.ex.i ("NoText", "row") (by simp)) (oki_NoText T) hr (by decide) rfl (pa_cons pe_int pa_nil))) pss_nil)
  (pss_cons (ps_set (i := 1) sc_read_fraction.nd rfl (Or.inl rfl) (pe_c0 (ok_fraction_in T) hr (by decide) rfl (pa_cons (pv 0) (pa_cons (C8.pe_gc rfl T.c_MOST_FIGURES) pa_nil))))
  (pss_cons (ps_if (pt_cmpR op_isP (pv 1) pe_non (nomark _))
  (pss_one (ps_raiO K rfl (takes_of rfl rfl rfl rfl) (T.ex.i ("NoText", "row") (by simp)) (oki_NoText T) hr (by decide) rfl (pa_cons pe_int pa_nil))) pss_nil)
  (pss_one (ps_ret (pv 1)))))), ?_⟩)
  · obtain ⟨x, rfl, _⟩ := h
    rfl
  · obtain ⟨x, rfl, h⟩ := h
    rw [st_read_fraction]
    walk_at "st"
    walk_at "rd"
    rcases h with ⟨l, n, d, rfl, hl, hf, q⟩ | ⟨hn, r⟩
    · walk_at "rd"
      refine ⟨l, 60, rfl, by decide, hl, ?_⟩
      rw [hf]
      intro p H' hp e1 e2
      walk_at "rd"
      exact q p H' hp e1 e2
    · rcases hn with ⟨l, rfl, hl, hf⟩ | rfl | ⟨i, rfl⟩ | ⟨b, rfl⟩ | ⟨p, xs, rfl, hp⟩ | ⟨p, xs, rfl, hp⟩ | ⟨p, xs, rfl, hp⟩
      · walk_at "isi"
        walk_at "rd"
        refine ⟨l, 60, rfl, by decide, hl, ?_⟩
        rw [hf]
        intro H' e1
        walk_at "rd"
        refine r_raiE (fmt_int (i := 0) (by decide) (by decide +kernel)) (fun d hd => ?_)
        exact r d _ (Z.fr hd e1) (e1.trans (Same.new hd)) upd_same
      all_goals
        walk_at "isi"
        walk_at "rd"
        refine r_raiE (fmt_int (i := 0) (by decide) (by decide +kernel)) (fun d hd => ?_)
        exact r d _ hd (Same.new hd) upd_same
end
end My

namespace My
open PySem PySem.Spec PyProof.Rows L2 Z M SX TL
section
variable {P : Program} {w : World} {K : PySem.W.Frag} {mg : Str → Option Value} {base : Heap}
/-! ### the law's own -/
def sp_pool (K : PySem.W.Frag) : Sp := fun vs H Q _ => ∃ (a : Addr) (ns : List Int) (k : Nat), vs = [.ref a, .int k] ∧ SqL K H a (ns.map V.int) ∧ k < 100 ∧
  ∀ p x y H', H p = none → Same H H' → H' p = some (.lst [.int x, .int y]) → 0 ≤ x → 0 ≤ y → y < 2147483647 → Q (.ref p) H'
theorem ok_law_pool (T : Txt K mg) : Z.C0 P w K mg base 1 "_law_pool" (sp_pool K) := by
  refine T.d_law_pool.c0 sc_law_pool (fun vs H Q E h => ?_) (Z.bd0 fun _ _ _ _ _ _ us hl => match us, hl with | [_, _], _ => rfl) (fun f cdv A outer s H vs Q E hr h => ⟨_, (pss_cons (ps_set (i := 2) sc_law_pool.nd rfl (Or.inl rfl) pe_int)
  (Evl.pss_cut (ps_if (pt_cmpR op_ltI (pv 1) (pe_callB (k_len K) rfl T.b_len (by decide +kernel) (pa_cons (pv 0) pa_nil)) (nomark _))
  (pss_one (ps_set (i := 2) sc_law_pool.nd rfl (Or.inl rfl) (pe_ix (k_ix K) (pv 0) (pv 1) (fun _ _ => rfl)))) pss_nil)
  (pss_cons (ps_set (i := 3) sc_law_pool.nd rfl (Or.inl rfl) (pe_op op_modP (pe_op op_mulP (pe_op (k_addP K) (pe_op (k_addP K) (pe_op op_modP (pv 2) pe_int) (pe_op op_mulP (pe_op op_mulP pe_int (pv 1)) (pv 1))) pe_int) pe_int) pe_int))
  (Evl.pss_cut (ps_if (pt_cmpR op_ltI (pv 2) (pe_op op_powI pe_int pe_int) (nomark _))
  (pss_one (ps_set (i := 2) sc_law_pool.nd rfl (Or.inl rfl) pe_int)) pss_nil)
  (pss_one (ps_ret (pe_lst (pa_cons (pv 2) (pa_cons (pv 3) pa_nil))))))))), ?_⟩)
  · obtain ⟨a, ns, k, rfl, _⟩ := h
    rfl
  · obtain ⟨a, ns, k, rfl, ha, hk, q⟩ := h
    rw [st_law_pool]
    walk_at "st"
    walk_at "rd"
    refine r_cut (fun σ' H' => ∃ c : Int, H = H' ∧ σ' = [some (.ref a), some (.int k), some (.int c), none]) ?_ ?_
    · walk_at "rd"
      refine r_ite (fun h1 => ?_) (fun h1 => ?_)
      · have hk2 : k < ns.length := by simp only [List.length_map] at h1; omega
        have hx : atI (ns.map V.int) (k : Int) = some (.int ns[k]) := atI_nat (by rw [List.getElem?_map, List.getElem?_eq_getElem hk2]; rfl)
        walk_at "rd"
        exact ⟨_, rfl, rfl⟩
      · walk_at "rd"
        exact ⟨_, rfl, rfl⟩
    rintro σ' _ ⟨c, rfl, rfl⟩
    walk_at "rd"
    refine r_cut (fun σ' H' => ∃ c d : Int, 0 ≤ c ∧ 0 ≤ d ∧ d < 2147483647 ∧ H = H' ∧ σ' = [some (.ref a), some (.int k), some (.int c), some (.int d)]) ?_ ?_
    · walk_at "rd"
      refine r_ite (fun h1 => ?_) (fun h1 => ?_)
      · walk_at "rd"
        exact ⟨_, _, by decide, by omega, by omega, rfl, rfl⟩
      · walk_at "rd"
        exact ⟨_, _, by omega, by omega, by omega, rfl, rfl⟩
    rintro σ' _ ⟨c, d, hc, hd, hd2, rfl, rfl⟩
    walk_at "rd"
    intro p H' hp e1 e2
    exact q p c d H' hp e1 e2 hc hd hd2
def sp_take : Sp := fun vs H Q _ => ∃ (p : Addr) (a b m : Int), vs = [.ref p, .int m] ∧ H p = some (.lst [.int a, .int b]) ∧ 0 ≤ a ∧ 0 ≤ b ∧ b < 2147483647 ∧ 0 < m ∧ m < 1073741824 ∧
  ∀ (x a' b' : Int) H', 0 ≤ x → x < m → 0 ≤ a' → 0 ≤ b' → b' < 2147483647 → Z.But p H H' → H' p = some (.lst [.int a', .int b']) → Q (.int x) H'
theorem ok_law_take (T : Txt K mg) : Z.C0 P w K mg base 1 "_law_take" (sp_take) := by
  refine T.d_law_take.c0 sc_law_take (fun vs H Q E h => ?_) (Z.bd0 fun _ _ _ _ _ _ us hl => match us, hl with | [_, _], _ => rfl) (fun f cdv A outer s H vs Q E hr h => ⟨_, (pss_cons (ps_if (pt_cmpR op_gtI (pe_ix (k_ix K) (pv 0) pe_int (fun _ _ => rfl)) pe_int (nomark _))
  (pss_cons (ps_set (i := 2) sc_law_take.nd rfl (Or.inl rfl) (pe_op op_modP (pe_ix (k_ix K) (pv 0) pe_int (fun _ _ => rfl)) (pv 1)))
  (pss_cons (ps_asg (pe_op op_div (pe_ix (k_ix K) (pv 0) pe_int (fun _ _ => rfl)) (pv 1)) (pg_sub (pv 0) pe_int set_list))
  (pss_one (ps_ret (pv 2))))) pss_nil)
  (pss_cons (ps_asg (pe_op op_modP (pe_op (k_addP K) (pe_op op_mulP (pe_ix (k_ix K) (pv 0) pe_int (fun _ _ => rfl)) pe_int) pe_int) pe_int) (pg_sub (pv 0) pe_int set_list))
  (pss_one (ps_ret (pe_op op_modP (pe_op op_div (pe_op op_modP (pe_op op_mulP (pe_ix (k_ix K) (pv 0) pe_int (fun _ _ => rfl)) (pe_ix (k_ix K) (pv 0) pe_int (fun _ _ => rfl))) pe_int) pe_int) (pv 1)))))), ?_⟩)
  · obtain ⟨p, a, b, m, rfl, _⟩ := h
    rfl
  · obtain ⟨p, a, b, m, rfl, hp, ha, hb, hb2, hm, hm2, q⟩ := h
    rw [st_law_take]
    walk_at "st"
    walk_at "rd"
    refine r_ite (fun h1 => ?_) (fun h1 => ?_)
    · walk_at "rd"
      intro H2 b2 e2
      replace e2 : H2 p = some (.lst [.int (a / m), .int b]) := e2
      walk_at "rd"
      exact q _ _ _ _ (Int.emod_nonneg _ (by omega)) (Int.emod_lt_of_pos _ hm) (Int.ediv_nonneg ha (by omega)) hb hb2 b2 e2
    · walk_at "rd"
      intro H2 b2 e2
      replace e2 : H2 p = some (.lst [.int a, .int ((b * 48271 + 11) % 2147483647)]) := e2
      walk_at "rd"
      exact q _ _ _ _ (Int.emod_nonneg _ (by omega)) (Int.emod_lt_of_pos _ hm) ha (by omega) (by omega) b2 e2
def sp_low : Sp := fun vs H Q _ => ∃ (t b : Nat), vs = [.int t, .int b] ∧ 0 < b ∧ b < 10 ^ 60 ∧ ∀ p H', H p = none → Same H H' → H' p = some (.tup [.int (t / Nat.gcd t b : Nat), .int (b / Nat.gcd t b : Nat)]) → Q (.ref p) H'
theorem ok_law_low (T : Txt K mg) : Z.C0 P w K mg base 1 "_law_low" (sp_low) := by
  refine T.d_law_low.c0 sc_law_low (fun vs H Q E h => ?_) (Z.bd0 fun _ _ _ _ _ _ us hl => match us, hl with | [_, _], _ => rfl) (fun f cdv A outer s H vs Q E hr h => ⟨_, (pss_cons (ps_par (i := 2) (j := 3) rfl sc_law_low.nd rfl rfl (by decide) rfl rfl (pa_cons (pv 0) (pa_cons (pv 1) pa_nil)) rfl)
  (pss_cons (ps_while PassesOwn.never (pt_cmpR (k_neP K hr.units) (pv 3) pe_int (nomark _))
  (pss_one (ps_par (i := 2) (j := 3) rfl sc_law_low.nd rfl rfl (by decide) rfl rfl (pa_cons (pv 3) (pa_cons (pe_op op_modP (pv 2) (pv 3)) pa_nil)) rfl)))
  (pss_one (ps_ret (pe_tup (pa_cons (pe_op op_div (pv 0) (pv 2)) (pa_cons (pe_op op_div (pv 1) (pv 2)) pa_nil))))))), ?_⟩)
  · obtain ⟨t, b, rfl, _⟩ := h
    rfl
  · obtain ⟨t, b, rfl, hb, hb2, q⟩ := h
    rw [st_law_low]
    walk_at "st"
    walk_at "rd"
    refine r_while (fun m σ H' => H = H' ∧ ∃ x y : Nat, σ = [some (.int t), some (.int b), some (.int x), some (.int y)] ∧ m = y ∧ Nat.gcd x y = Nat.gcd t b) b (by walk_at "mn") ⟨rfl, t, b, rfl, rfl, rfl⟩ ?_
    rintro m σ _ ⟨rfl, x, y, rfl, rfl, e⟩
    walk_at "rd"
    refine r_nite (fun h1 => ?_) (fun h1 => ?_)
    · walk_at "rd"
      exact ⟨x % m, Nat.mod_lt _ (by omega), rfl, m, x % m, rfl, rfl, (gcd_step (by omega)).trans e⟩
    · have : m = 0 := by omega
      subst this
      rw [Nat.gcd_zero_right] at e
      have g0 : 0 < x := by
        rw [e]
        exact Nat.gcd_pos_of_pos_right _ hb
      have g1 : x ≤ b := by
        rw [e]
        exact Nat.gcd_le_right _ hb
      walk_at "rd"
      refine r_div ?_ (div_ok g0 g1 hb2)
      walk_at "rd"
      refine r_div ?_ (div_ok g0 g1 hb2)
      walk_at "rd"
      rw [← e] at q
      exact q
def sp_great : Sp := fun vs H Q _ => ∃ (p : Addr) (a b : Int), vs = [.ref p] ∧ H p = some (.lst [.int a, .int b]) ∧ 0 ≤ a ∧ 0 ≤ b ∧ b < 2147483647 ∧
  ∀ (x a' b' : Int) H', 0 ≤ x → x < 10 ^ 60 → 0 ≤ a' → 0 ≤ b' → b' < 2147483647 → Z.But p H H' → H' p = some (.lst [.int a', .int b']) → Q (.int x) H'
theorem ok_law_great (T : Txt K mg) : Z.C0 P w K mg base 2 "_law_great" (sp_great) := by
  refine T.d_law_great.c0 sc_law_great (fun vs H Q E h => ?_) (Z.bd0 fun _ _ _ _ _ _ us hl => match us, hl with | [_], _ => rfl) (fun f cdv A outer s H vs Q E hr h => ⟨_, (pss_cons (ps_set (i := 1) sc_law_great.nd rfl (Or.inl rfl) pe_int)
  (pss_cons (ps_for PassesOwn.never rfl (pi_range1 rfl T.b_range (pa_cons (pe_op (k_addP K) pe_int (pe_c0 (ok_law_take T) hr (by decide) rfl (pa_cons (pv 0) (pa_cons pe_int pa_nil)))) pa_nil)) (pg_name (i := 2) sc_law_great.nd rfl (Or.inl rfl))
  (pss_one (ps_set (i := 1) sc_law_great.nd rfl (Or.inl rfl) (pe_op (k_addP K) (pe_op op_mulP (pv 1) (pe_op op_powI pe_int pe_int)) (pe_c0 (ok_law_take T) hr (by decide) rfl (pa_cons (pv 0) (pa_cons (pe_op op_powI pe_int pe_int) pa_nil)))))))
  (pss_one (ps_ret (pv 1))))), ?_⟩)
  · obtain ⟨p, a, b, rfl, _⟩ := h
    rfl
  · obtain ⟨p, a, b, rfl, hp, ha, hb, hb2, q⟩ := h
    rw [st_law_great]
    walk_at "st"
    walk_at "rd"
    refine ⟨p, a, b, 10, rfl, hp, ha, hb, hb2, by decide, by decide, fun x a' b' H' h1 h2 h3 h4 h5 h6 h7 => ?_⟩
    walk_at "rd"
    refine forW walk_range (fun i σ H2 => ∃ (f a2 b2 : Int) (z : Option V), σ = [some (.ref p), some (.int f), z] ∧ 0 ≤ f ∧ f < 10 ^ (6 * i) ∧ 0 ≤ a2 ∧ 0 ≤ b2 ∧ b2 < 2147483647 ∧ But p H H2 ∧ H2 p = some (.lst [.int a2, .int b2])) ⟨0, a', b', none, rfl, by decide, by decide, h3, h4, h5, h6, h7⟩ (fun _ _ _ _ _ => trivial) ?_ ?_
    · rintro i x2 σ H2 H3 hi ⟨f, a2, b2, z, rfl, hf, hf2, ha2, hb2, hb3, bt, e2⟩ ⟨rfl, rfl⟩
      walk_at "rd"
      refine ⟨p, a2, b2, 1000000, rfl, e2, ha2, hb2, hb3, by decide, by decide, fun x3 a3 b3 H4 k1 k2 k3 k4 k5 k6 k7 => ?_⟩
      walk_at "rd"
      refine ⟨_, a3, b3, _, rfl, by omega, ?_, k3, k4, k5, by walk_at "bt", k7⟩
      have e : (10 : Int) ^ (6 * (i + 1)) = 10 ^ (6 * i) * 1000000 := by
        rw [Nat.mul_add, Int.pow_add]
        rfl
      rw [e]
      omega
    · rintro σ H2 ⟨f, a2, b2, z, rfl, hf, hf2, ha2, hb2, hb3, bt, e2⟩
      walk_at "rd"
      refine q f a2 b2 H2 hf (Int.lt_of_lt_of_le hf2 ?_) ha2 hb2 hb3 bt e2
      have hle : 6 * (1 + x).toNat ≤ 60 := by omega
      have : (10 : Nat) ^ (6 * (1 + x).toNat) ≤ 10 ^ 60 := Nat.pow_le_pow_right (by decide) hle
      have e3 : ((10 : Int) ^ (6 * (1 + x).toNat)) = ((10 ^ (6 * (1 + x).toNat) : Nat) : Int) := by
        rw [Int.natCast_pow]
        rfl
      rw [e3]
      exact Int.ofNat_le.mpr this
theorem at_in {xs : List V} {z : Int} (h0 : 0 ≤ z) (h1 : z < xs.length) : ∃ v, atI xs z = some v ∧ v ∈ xs := by
  obtain ⟨j, rfl⟩ : ∃ j : Nat, z = j := ⟨z.toNat, by omega⟩
  have hj : j < xs.length := by omega
  exact ⟨xs[j], atI_nat (List.getElem?_eq_getElem hj), List.getElem_mem hj⟩
def sp_odd (K : PySem.W.Frag) : Sp := fun vs H Q _ => ∃ (p o : Addr) (a b : Int) (t d : Nat), vs = [.ref p, .ref o] ∧ H p = some (.lst [.int a, .int b]) ∧ SqT K H o [.int t, .int d] ∧ 0 ≤ a ∧ 0 ≤ b ∧ b < 2147483647 ∧ t < 10 ^ 58 ∧ 2 ≤ d ∧ d < 10 ^ 58 + 2 ∧
  ∀ z a' b' H', Nf z → 0 ≤ a' → 0 ≤ b' → b' < 2147483647 → Z.But p H H' → H' p = some (.lst [.int a', .int b']) → Q (.str z) H'
theorem ok_law_odd (T : Txt K mg) : Z.C0 P w K mg base 2 "_law_odd" (sp_odd K) := by
  refine T.d_law_odd.c0 sc_law_odd (fun vs H Q E h => ?_) (Z.bd0 fun _ _ _ _ _ _ us hl => match us, hl with | [_, _], _ => rfl) (fun f cdv A outer s H vs Q E hr h => ⟨_, (pss_cons (ps_par (i := 2) (j := 3) rfl sc_law_odd.nd rfl rfl (by decide) rfl rfl (pa_cons (pe_callTy call_strP rfl T.b_str (by decide +kernel) (pa_cons (pe_ix (k_ix K) (pv 1) pe_int (fun _ _ => rfl)) pa_nil)) (pa_cons (pe_callTy call_strP rfl T.b_str (by decide +kernel) (pa_cons (pe_ix (k_ix K) (pv 1) pe_int (fun _ _ => rfl)) pa_nil)) pa_nil)) rfl)
  (pss_cons (ps_set (i := 4) sc_law_odd.nd rfl (Or.inl rfl) (pe_op (k_addP K) (pe_op (k_addP K) (pv 2) pe_str) (pv 3)))
  (pss_cons (ps_set (i := 5) sc_law_odd.nd rfl (Or.inl rfl) (pe_lst (pa_cons (pe_op (k_addP K) pe_str (pv 2)) (pa_cons (pe_op (k_addP K) pe_str (pv 2)) (pa_cons (pe_op (k_addP K) pe_str (pv 2)) (pa_cons pe_str (pa_cons (pe_op (k_addP K) pe_str (pv 2)) (pa_cons (pe_op (k_addP K) (pv 2) pe_str) (pa_cons (pe_op (k_addP K) (pv 2) pe_str) (pa_cons (pe_op (k_addP K) pe_str (pv 2)) pa_nil))))))))))
  (pss_cons (ps_set (i := 5) sc_law_odd.nd rfl (Or.inl rfl) (pe_op (k_addP K) (pv 5) (pe_lst (pa_cons (pe_op (k_addP K) (pv 2) pe_str) (pa_cons (pe_op (k_addP K) (pv 2) pe_str) (pa_cons (pe_op (k_addP K) (pv 2) pe_str) (pa_cons (pe_op (k_addP K) pe_str (pv 3)) (pa_cons pe_str (pa_cons pe_str (pa_cons pe_str (pa_cons (pe_op (k_addP K) (pv 4) pe_str) (pa_cons (pe_op (k_addP K) (pv 4) pe_str) pa_nil))))))))))))
  (pss_cons (ps_set (i := 5) sc_law_odd.nd rfl (Or.inl rfl) (pe_op (k_addP K) (pv 5) (pe_lst (pa_cons (pe_op (k_addP K) (pe_op (k_addP K) (pv 2) pe_str) (pv 3)) (pa_cons (pe_op (k_addP K) (pe_op (k_addP K) (pv 2) pe_str) (pv 3)) (pa_cons (pe_op (k_addP K) (pe_op (k_addP K) (pv 2) pe_str) (pv 3)) (pa_cons (pe_op (k_addP K) pe_str (pv 4)) (pa_cons (pe_op (k_addP K) pe_str (pv 4)) pa_nil))))))))
  (pss_cons (ps_set (i := 5) sc_law_odd.nd rfl (Or.inl rfl) (pe_op (k_addP K) (pv 5) (pe_lst (pa_cons (pe_op (k_addP K) pe_str (pv 3)) (pa_cons (pe_op (k_addP K) pe_str (pv 3)) (pa_cons (pe_op (k_addP K) (pe_op (k_addP K) (pv 2) pe_str) (pv 3)) (pa_cons (pe_op (k_addP K) (pe_op (k_addP K) (pv 2) pe_str) (pv 3)) pa_nil)))))))
  (pss_cons (ps_set (i := 5) sc_law_odd.nd rfl (Or.inl rfl) (pe_op (k_addP K) (pv 5) (pe_lst (pa_cons (pe_op (k_addP K) (pe_op (k_addP K) (pe_callTy call_strP rfl T.b_str (by decide +kernel) (pa_cons (pe_op (k_addP K) (pe_op op_mulP pe_int (pe_ix (k_ix K) (pv 1) pe_int (fun _ _ => rfl))) pe_int) pa_nil)) pe_str) (pe_callTy call_strP rfl T.b_str (by decide +kernel) (pa_cons (pe_op (k_addP K) (pe_op op_mulP pe_int (pe_ix (k_ix K) (pv 1) pe_int (fun _ _ => rfl))) pe_int) pa_nil))) (pa_cons (pe_op (k_addP K) (pv 2) pe_str) (pa_cons (pe_op (k_addP K) (pv 2) pe_str) (pa_cons pe_str pa_nil)))))))
  (pss_cons (ps_set (i := 5) sc_law_odd.nd rfl (Or.inl rfl) (pe_op (k_addP K) (pv 5) (pe_lst (pa_cons (pe_op (k_addP K) pe_str (pe_op op_mulS pe_str pe_int)) (pa_cons (pe_op (k_addP K) pe_str (pe_op op_mulS pe_str pe_int)) (pa_cons pe_str (pa_cons (pe_op (k_addP K) pe_str (pv 3)) pa_nil)))))))
  (pss_cons (ps_set (i := 5) sc_law_odd.nd rfl (Or.inl rfl) (pe_op (k_addP K) (pv 5) (pe_lst (pa_cons (pe_op (k_addP K) (pe_op (k_addP K) (pe_op (k_addP K) pe_str (pe_callTy call_strP rfl T.b_str (by decide +kernel) (pa_cons (pe_op (k_addP K) (pe_op op_mulP pe_int (pe_ix (k_ix K) (pv 1) pe_int (fun _ _ => rfl))) pe_int) pa_nil))) pe_str) (pe_callTy call_strP rfl T.b_str (by decide +kernel) (pa_cons (pe_op (k_addP K) (pe_op op_mulP pe_int (pe_ix (k_ix K) (pv 1) pe_int (fun _ _ => rfl))) pe_int) pa_nil))) (pa_cons (pe_op (k_addP K) (pe_op (k_addP K) pe_str (pv 2)) pe_str) (pa_cons pe_str pa_nil))))))
  (pss_cons (ps_set (i := 5) sc_law_odd.nd rfl (Or.inl rfl) (pe_op (k_addP K) (pv 5) (pe_lst (pa_cons (pe_op (k_addP K) (pe_op (k_addP K) (pe_callTy call_strP rfl T.b_str (by decide +kernel) (pa_cons (pe_op (k_addP K) (pe_op op_mulP pe_int (pe_ix (k_ix K) (pv 1) pe_int (fun _ _ => rfl))) pe_int) pa_nil)) pe_str) (pe_callTy call_strP rfl T.b_str (by decide +kernel) (pa_cons (pe_op (k_addP K) (pe_op op_mulP pe_int (pe_ix (k_ix K) (pv 1) pe_int (fun _ _ => rfl))) pe_int) pa_nil))) (pa_cons (pe_op (k_addP K) pe_str (pe_op op_mulS pe_str pe_int)) pa_nil)))))
  (pss_one (ps_ret (pe_ix (k_ix K) (pe_op (k_addP K) (pv 5) (pe_lst (pa_cons (pe_op (k_addP K) (pe_op (k_addP K) pe_str (pe_op op_mulS pe_str pe_int)) pe_str) pa_nil))) (pe_c0 (ok_law_take T) hr (by decide) rfl (pa_cons (pv 0) (pa_cons pe_int pa_nil))) (fun _ _ => rfl)))))))))))))), ?_⟩)
  · obtain ⟨p, o, a, b, t, d, rfl, _⟩ := h
    rfl
  · obtain ⟨p, o, a, b, t, d, rfl, hp, ho, ha, hb, hb2, ht, hd, hd2, q⟩ := h
    rw [st_law_odd]
    walk_at "st"
    have h1 := num_len t (by omega)
    have h2 := num_len d (by omega)
    have h3 := num_len (6 * t + 6) (by omega)
    have h4 := num_len (6 * d + 6) (by omega)
    have h5 := num_len (35 * t + 35) (by omega)
    have h7 := num_len (35 * d + 35) (by omega)
    walk_at "rd"
    intro l1 G1 n1 s1 f1
    walk_at "rd"
    intro l2 G2 n2 s2 f2
    walk_at "rd"
    intro l3 G3 n3 s3 f3
    walk_at "rd"
    intro l4 G4 n4 s4 f4
    walk_at "rd"
    intro l5 G5 n5 s5 f5
    walk_at "rd"
    intro l6 G6 n6 s6 f6
    walk_at "rd"
    intro l7 G7 n7 s7 f7
    walk_at "rd"
    rw [show 6 * (t : Int) + 6 = ((6 * t + 6 : Nat) : Int) by omega]
    walk_at "rd"
    rw [show 6 * (d : Int) + 6 = ((6 * d + 6 : Nat) : Int) by omega]
    walk_at "rd"
    intro l8 G8 n8 s8 f8
    walk_at "rd"
    intro l9 G9 n9 s9 f9
    walk_at "rd"
    intro l10 G10 n10 s10 f10
    walk_at "rd"
    intro l11 G11 n11 s11 f11
    walk_at "rd"
    rw [show 6 * (t : Int) + 6 = ((6 * t + 6 : Nat) : Int) by omega]
    walk_at "rd"
    rw [show 6 * (d : Int) + 6 = ((6 * d + 6 : Nat) : Int) by omega]
    walk_at "rd"
    intro l12 G12 n12 s12 f12
    walk_at "rd"
    intro l13 G13 n13 s13 f13
    walk_at "rd"
    rw [show 35 * (t : Int) + 35 = ((35 * t + 35 : Nat) : Int) by omega]
    walk_at "rd"
    rw [show 35 * (d : Int) + 35 = ((35 * d + 35 : Nat) : Int) by omega]
    walk_at "rd"
    intro l14 G14 n14 s14 f14
    walk_at "rd"
    intro l15 G15 n15 s15 f15
    walk_at "rd"
    intro l16 G16 n16 s16 f16
    walk_at "rd"
    intro l17 G17 n17 s17 f17
    walk_at "rd"
    have f18 : G17 l17 = some (.lst ((bads t d).map V.str)) := f17
    clear f1 f2 f3 f4 f5 f6 f7 f8 f9 f10 f11 f12 f13 f14 f15 f16 f17
    refine ⟨p, a, b, 40, rfl, by walk_at "lk", ha, hb, hb2, by decide, by decide, fun x a' b' H' c1 c2 c3 c4 c5 g1 e1 => ?_⟩
    obtain ⟨v, hv, hm⟩ := at_in (xs := (bads t d).map V.str) c1 (show x < ((((bads t d).map V.str).length : Nat) : Int) from c2)
    obtain ⟨z, hz, rfl⟩ := List.mem_map.mp hm
    refine r_ixL (xs := (bads t d).map V.str) (by walk_at "lk") hv ?_
    exact q z a' b' H' (bads_all ht hd hd2 z hz) c3 c4 c5 (by walk_at "bt") e1
end
end My


namespace My
open PySem PySem.Spec PyProof.Rows L2 Z M SX TL
section
variable {P : Program} {w : World} {K : PySem.W.Frag} {mg : Str → Option Value} {base : Heap}
def sp_ref : Sp := fun vs H Q _ => ∃ x, vs = [x] ∧ NoFr x H ∧ ∀ H', Same H H' → Q (.bl true) H'
theorem ok_law_is_refused (T : Txt K mg) : Z.C0 P w K mg base 6 "_law_is_refused" (sp_ref) := by
  refine T.d_law_is_refused.c0 sc_law_is_refused (fun vs H Q E h => ?_) (Z.bd0 fun _ _ _ _ _ _ us hl => match us, hl with | [_], _ => rfl) (fun f cdv A outer s H vs Q E hr h => ⟨_, (pss_cons (ps_set (i := 1) sc_law_is_refused.nd rfl (Or.inl rfl) pe_non)
  (pss_cons (ps_keep (i := 2) rfl rfl rfl sc_law_is_refused.nd rfl rfl ⟨rfl, by decide, Or.inl T.k_DearError⟩ takes0 (fun W pn xe tk hp => (pss_one (ps_expr (pe_ce (ok_read_fraction T) hr (by decide) rfl tk (pa_cons (pv 0) pa_nil)))))
  (fun a oe cls d pn hz hf => (pss_one (ps_set (i := 1) sc_law_is_refused.nd rfl (Or.inl rfl) (pv 2)))))
  (pss_cons (ps_if (PW.pt (pw_or (pt_not (pt_val (pe_callB (k_isiX K) rfl T.b_isinstance (by decide +kernel) (pa_cons (pv 1) (pa_cons (pe_glob (v := .ref (He.ga K "NoText")) rfl T.k_NoText rfl) pa_nil))))) (pw_or1 (pt_not (pt_val (pe_callB (k_isiX K) rfl T.b_isinstance (by decide +kernel) (pa_cons (pv 1) (pa_cons (pe_bltn (v := .ty "ValueError") rfl T.b_ValueError (by decide +kernel) rfl) pa_nil))))))))
  (pss_one (ps_ret pe_bl)) pss_nil)
  (pss_cons (ps_if (pt_val (pe_callB (k_isiXT K) rfl T.b_isinstance (by decide +kernel) (pa_cons (pv 1) (pa_cons (pe_tup (pa_cons (pe_glob (v := .ref (He.ga K "BadSign")) rfl T.k_BadSign rfl) (pa_cons (pe_glob (v := .ref (He.ga K "NoBook")) rfl T.k_NoBook rfl) (pa_cons (pe_glob (v := .ref (He.ga K "NoCount")) rfl T.k_NoCount rfl) (pa_cons (pe_glob (v := .ref (He.ga K "NoNumber")) rfl T.k_NoNumber rfl) (pa_cons (pe_glob (v := .ref (He.ga K "NoRow")) rfl T.k_NoRow rfl) (pa_cons (pe_glob (v := .ref (He.ga K "NoThing")) rfl T.k_NoThing rfl) (pa_cons (pe_glob (v := .ref (He.ga K "NoTongue")) rfl T.k_NoTongue rfl) (pa_cons (pe_glob (v := .ref (He.ga K "NoTree")) rfl T.k_NoTree rfl) (pa_cons (pe_glob (v := .ref (He.ga K "NoTurn")) rfl T.k_NoTurn rfl) pa_nil)))))))))) pa_nil))))
  (pss_one (ps_ret pe_bl)) pss_nil)
  (pss_cons (ps_if (pt_val (pe_callB (k_isiXT K) rfl T.b_isinstance (by decide +kernel) (pa_cons (pv 1) (pa_cons (pe_tup (pa_cons (pe_glob (v := .ref (He.ga K "NoUndo")) rfl T.k_NoUndo rfl) (pa_cons (pe_glob (v := .ref (He.ga K "NoWants")) rfl T.k_NoWants rfl) (pa_cons (pe_glob (v := .ref (He.ga K "TooMany")) rfl T.k_TooMany rfl) (pa_cons (pe_glob (v := .ref (He.ga K "Unknown")) rfl T.k_Unknown rfl) pa_nil))))) pa_nil))))
  (pss_one (ps_ret pe_bl)) pss_nil)
  (pss_one (ps_ret (pe_and (pe_callB (k_isi K) rfl T.b_isinstance (by decide +kernel) (pa_cons (pe_xv K (pv 1)) (pa_cons (pe_bltn (v := .ty "int") rfl T.b_int (by decide +kernel) rfl) pa_nil))) (pe_and (pe_not (pe_callB (k_isi K) rfl T.b_isinstance (by decide +kernel) (pa_cons (pe_xv K (pv 1)) (pa_cons (pe_bltn (v := .ty "bool") rfl T.b_bool (by decide +kernel) rfl) pa_nil)))) (pe_one (pe_cmpR (k_eqP K hr.units) (pe_xv K (pv 1)) pe_int (nomark _)))))))))))), ?_⟩)
  · obtain ⟨x, rfl, _⟩ := h
    rfl
  · obtain ⟨x, rfl, hn, q⟩ := h
    rw [st_law_is_refused]
    walk_at "st"
    walk_at "rd"
    refine ⟨x, rfl, .inr ⟨hn, fun d H1 hd e1 f1 => ?_⟩⟩
    refine r_caught ((T.ex.m "NoText" (by simp) "DearError" (by simp)).trans rfl) (fun a ha => ?_)
    dsimp only [List.set]
    walk_at "rd"
    dsimp only [List.set]
    walk_at "rd"
    have hda : d ≠ a := fun z => by
      rw [z, ha] at f1
      cases f1
    have e2 : Same H1 (upd H1 a (ExH (.ref (He.ga K "NoText")) (some d) a)) := Same.new ha
    have f2 : (upd H1 a (ExH (.ref (He.ga K "NoText")) (some d) a)) a = some (ExH (.ref (He.ga K "NoText")) (some d) a) := upd_same
    have f3 : (upd H1 a (ExH (.ref (He.ga K "NoText")) (some d) a)) d = some (.xd [("row", .int 0)]) := by rw [upd_ne hda]; exact f1
    revert e2 f2 f3
    generalize upd H1 a (ExH (.ref (He.ga K "NoText")) (some d) a) = H2
    intro e2 f2 f3
    have dv : ∀ {H3 : Hp}, Same H2 H3 → DictV H3 (some d) := fun e => .inr ⟨d, _, rfl, e _ _ f3⟩
    refine r_isX true (x := "NoText") (y := "NoText") T.ex (by decide +kernel) (by decide +kernel) f2 (dv (Same.refl _)) ?_
    walk_at "rd"
    refine r_isXv (x := "NoText") T.ex (by decide +kernel) f2 (dv (Same.refl _)) ?_
    walk_at "rd"
    intro t1 H3 n3 e3 f4
    walk_at "rd"
    refine r_isXT false ["BadSign", "NoBook", "NoCount", "NoNumber", "NoRow", "NoThing", "NoTongue", "NoTree", "NoTurn"] (x := "NoText") T.ex (by decide +kernel) (by decide +kernel) (e3 _ _ f2) (dv e3) f4 ?_
    walk_at "rd"
    intro t2 H4 n4 e4 f5
    walk_at "rd"
    refine r_isXT false ["NoUndo", "NoWants", "TooMany", "Unknown"] (x := "NoText") T.ex (by decide +kernel) (by decide +kernel) (e4 _ _ (e3 _ _ f2)) (dv (e3.trans e4)) f5 ?_
    walk_at "rd"
    have M : OexM K mg "NoText" "row" := T.ex.i ("NoText", "row") (by simp)
    refine r_xv M (e4 _ _ (e3 _ _ f2)) (e4 _ _ (e3 _ _ f3)) ?_
    walk_at "rd"
    refine r_xv M (e4 _ _ (e3 _ _ f2)) (e4 _ _ (e3 _ _ f3)) ?_
    walk_at "rd"
    refine r_xv M (e4 _ _ (e3 _ _ f2)) (e4 _ _ (e3 _ _ f3)) ?_
    walk_at "rd"
    exact q _ (by walk_at "sm")
end
end My

namespace My
open PySem PySem.Spec PyProof.Rows L2 Z M SX TL
section
variable {P : Program} {w : World} {K : PySem.W.Frag} {mg : Str → Option Value} {base : Heap}
theorem fracL_len {n : Int} {d : Nat} (hn : n.natAbs < 10 ^ 60) (hd : d < 10 ^ 60) : (fracL n d).length ≤ 200 := by
  have h1 := int_len hn
  have h2 := len60 hd
  rw [M.S_len] at h1
  unfold fracL
  split
  · omega
  · rw [List.length_append, List.length_cons]
    omega
theorem nf_nofr {z : Str} {H : Hp} (h : Nf z) : NoFr (.str z) H := .inl ⟨tl z, by rw [← M.S_tl z], h.2, h.1⟩
theorem nofr_up {x : V} {H H' : Hp} (e : Same H H') (h : NoFr x H) : NoFr x H' := by
  rcases h with h | h | h | h | ⟨p, xs, h1, h2⟩ | ⟨p, xs, h1, h2⟩ | ⟨p, xs, h1, h2⟩
  · exact .inl h
  · exact .inr (.inl h)
  · exact .inr (.inr (.inl h))
  · exact .inr (.inr (.inr (.inl h)))
  · exact .inr (.inr (.inr (.inr (.inl ⟨p, xs, h1, e _ _ h2⟩))))
  · exact .inr (.inr (.inr (.inr (.inr (.inl ⟨p, xs, h1, e _ _ h2⟩)))))
  · exact .inr (.inr (.inr (.inr (.inr (.inr ⟨p, xs, h1, e _ _ h2⟩)))))
def sp_law (K : PySem.W.Frag) : Sp := fun vs H Q _ => ∃ (a : Addr) (ns : List Int), vs = [.ref a] ∧ SqL K H a (ns.map V.int) ∧ ns.length ≤ 63 ∧ ∀ H', Q (.bl true) H'
theorem ok_law (T : Txt K mg) {fa : Addr} (hmg : mg "law" = some (.ref fa)) : ∃ fd : FuncData, (∀ (s : Shared) (u : Value), BindsTo s fd ⟨[u], []⟩ [("_law_script", u)]) ∧ ∀ base : Heap, FnOk P w K mg base CX0 7 fa fd ["_law_script"] (sp_law K) := by
  refine T.d_law.law hmg sc_law (fun vs H Q E h => ?_) (fun _ _ _ _ _ _ _ => rfl) (fun base f cdv A outer s H vs Q E hr h => ⟨_, (pss_cons (ps_for PassesOwn.never rfl (pi_range1 rfl T.b_range (pa_cons (pe_callB (call_maxP rfl) rfl T.b_max (by decide +kernel) (pa_cons pe_int (pa_cons (pe_callB (call_minP rfl) rfl T.b_min (by decide +kernel) (pa_cons (pe_callB (k_len K) rfl T.b_len (by decide +kernel) (pa_cons (pv 0) pa_nil)) (pa_cons pe_int pa_nil))) pa_nil))) pa_nil)) (pg_name (i := 1) sc_law.nd rfl (Or.inl rfl))
  (pss_cons (ps_set (i := 2) sc_law.nd rfl (Or.inl rfl) (pe_c0 (ok_law_pool T) hr (by decide) rfl (pa_cons (pv 0) (pa_cons (pv 1) pa_nil))))
  (pss_cons (ps_set (i := 3) sc_law.nd rfl (Or.inl rfl) (pe_ix (k_ix K) (pe_lst (pa_cons (pe_c0 (ok_law_take T) hr (by decide) rfl (pa_cons (pv 2) (pa_cons pe_int pa_nil))) (pa_cons (pe_op op_div (pe_c0 (ok_law_great T) hr (by decide) rfl (pa_cons (pv 2) pa_nil)) pe_int) pa_nil))) (pe_c0 (ok_law_take T) hr (by decide) rfl (pa_cons (pv 2) (pa_cons pe_int pa_nil))) (fun _ _ => rfl)))
  (pss_cons (ps_set (i := 4) sc_law.nd rfl (Or.inl rfl) (pe_ix (k_ix K) (pe_lst (pa_cons (pe_op (k_addP K) pe_int (pe_c0 (ok_law_take T) hr (by decide) rfl (pa_cons (pv 2) (pa_cons pe_int pa_nil)))) (pa_cons (pe_op (k_addP K) pe_int (pe_op op_div (pe_c0 (ok_law_great T) hr (by decide) rfl (pa_cons (pv 2) pa_nil)) pe_int)) pa_nil))) (pe_c0 (ok_law_take T) hr (by decide) rfl (pa_cons (pv 2) (pa_cons pe_int pa_nil))) (fun _ _ => rfl)))
  (pss_cons (ps_set (i := 5) sc_law.nd rfl (Or.inl rfl) (pe_c0 (ok_law_odd T) hr (by decide) rfl (pa_cons (pv 2) (pa_cons (pe_tup (pa_cons (pv 3) (pa_cons (pv 4) pa_nil))) pa_nil))))
  (Evl.pss_cut (ps_if (pt_cmpR (k_eqP K hr.units) (pe_c0 (ok_law_take T) hr (by decide) rfl (pa_cons (pv 2) (pa_cons pe_int pa_nil))) pe_int (nomark _))
  (pss_one (ps_set (i := 5) sc_law.nd rfl (Or.inl rfl) (pe_ix (k_ix K) (pe_lst (pa_cons pe_non (pa_cons pe_int (pa_cons pe_bl (pa_cons (pe_lst (pa_cons pe_str pa_nil)) (pa_cons (pe_tup (pa_cons pe_int (pa_cons pe_int pa_nil))) (pa_cons pe_dnewK pa_nil))))))) (pe_c0 (ok_law_take T) hr (by decide) rfl (pa_cons (pv 2) (pa_cons pe_int pa_nil))) (fun _ _ => rfl)))) pss_nil)
  (pss_cons (ps_if (pt_not (pt_val (pe_c0 (ok_law_is_refused T) hr (by decide) rfl (pa_cons (pv 5) pa_nil))))
  (pss_one (ps_ret pe_bl)) pss_nil)
  (pss_cons (ps_set (i := 6) sc_law.nd rfl (Or.inl rfl) (pe_c0 (ok_law_low T) hr (by decide) rfl (pa_cons (pe_op (k_addP K) pe_int (pv 3)) (pa_cons (pv 4) pa_nil))))
  (pss_cons (ps_set (i := 7) sc_law.nd rfl (Or.inl rfl) (pe_op (k_addP K) (pe_op (k_addP K) (pe_callTy call_strP rfl T.b_str (by decide +kernel) (pa_cons (pe_ix (k_ix K) (pv 6) pe_int (fun _ _ => rfl)) pa_nil)) pe_str) (pe_callTy call_strP rfl T.b_str (by decide +kernel) (pa_cons (pe_ix (k_ix K) (pv 6) pe_int (fun _ _ => rfl)) pa_nil))))
  (Evl.pss_cut (ps_if (pt_cmpR (k_eqP K hr.units) (pe_ix (k_ix K) (pv 6) pe_int (fun _ _ => rfl)) pe_int (nomark _))
  (pss_one (ps_set (i := 7) sc_law.nd rfl (Or.inl rfl) (pe_callTy call_strP rfl T.b_str (by decide +kernel) (pa_cons (pe_ix (k_ix K) (pv 6) pe_int (fun _ _ => rfl)) pa_nil)))) pss_nil)
  (pss_one (ps_if (pt_cmpR (k_neP K hr.units) (pe_ce (ok_read_fraction T) hr (by decide) rfl takes0 (pa_cons (pv 7) pa_nil)) (pv 6) (nomark _))
  (pss_one (ps_ret pe_bl)) pss_nil))))))))))))
  (pss_one (ps_ret pe_bl))), ?_⟩)
  · obtain ⟨a, ns, rfl, _⟩ := h
    rfl
  · obtain ⟨a, ns, rfl, ha, hl, q⟩ := h
    rw [st_law]
    walk_at "st"
    walk_at "rd"
    refine forW walk_r0 (fun i σ H2 => ∃ z1 z2 z3 z4 z5 z6 z7 : Option V, σ = [some (.ref a), z1, z2, z3, z4, z5, z6, z7] ∧ Same H H2) ⟨_, _, _, _, _, _, _, rfl, Same.refl _⟩ (fun _ _ _ _ _ => trivial) ?_ ?_
    · rintro i x σ H1 H1' hi ⟨z1, z2, z3, z4, z5, z6, z7, rfl, e1⟩ ⟨rfl, rfl⟩
      have hi2 : i < 100 := by
        split at hi <;> split at hi <;> omega
      walk_at "rd"
      refine ⟨a, ns, i, rfl, by walk_at "lk", hi2, fun p x y H2 hp e2 f2 b1 b2 b3 => ?_⟩
      walk_at "rd"
      refine ⟨p, _, _, 20, rfl, f2, b1, b2, b3, by decide, by decide, fun t1 x y H3 c1 c2 b1 b2 b3 g3 f3 => ?_⟩
      walk_at "rd"
      refine ⟨p, _, _, rfl, f3, b1, b2, b3, fun t2 x y H4 c3 c4 b1 b2 b3 g4 f4 => ?_⟩
      walk_at "rd"
      intro l1 H5 hl1 e5 f5
      walk_at "rd"
      refine ⟨p, _, _, 2, rfl, by walk_at "lk", b1, b2, b3, by decide, by decide, fun w1 x y H6 c5 c6 b1 b2 b3 g6 f6 => ?_⟩
      obtain ⟨v1, hv1, hm1⟩ := at_in (xs := [V.int t1, V.int (t2 / 100)]) c5 c6
      obtain ⟨t, rfl, ht1⟩ : ∃ t : Nat, v1 = .int t ∧ t < 10 ^ 58 := by
        simp only [List.mem_cons, List.not_mem_nil, or_false] at hm1
        rcases hm1 with rfl | rfl
        · exact ⟨t1.toNat, by rw [Int.toNat_of_nonneg c1], by omega⟩
        · exact ⟨(t2 / 100).toNat, by rw [Int.toNat_of_nonneg (by omega)], by omega⟩
      walk_at "rd"
      refine ⟨p, _, _, 12, rfl, by walk_at "lk", b1, b2, b3, by decide, by decide, fun t3 x y H7 c7 c8 b1 b2 b3 g7 f7 => ?_⟩
      walk_at "rd"
      refine ⟨p, _, _, rfl, f7, b1, b2, b3, fun t4 x y H8 c9 c10 b1 b2 b3 g8 f8 => ?_⟩
      walk_at "rd"
      intro l2 H9 hl2 e9 f9
      walk_at "rd"
      refine ⟨p, _, _, 2, rfl, by walk_at "lk", b1, b2, b3, by decide, by decide, fun w2 x y H10 d1 d2 b1 b2 b3 g10 f10 => ?_⟩
      obtain ⟨v2, hv2, hm2⟩ := at_in (xs := [V.int (2 + t3), V.int (2 + t4 / 100)]) d1 d2
      obtain ⟨d, rfl, hd0, hd1⟩ : ∃ d : Nat, v2 = .int d ∧ 2 ≤ d ∧ d < 10 ^ 58 + 2 := by
        simp only [List.mem_cons, List.not_mem_nil, or_false] at hm2
        rcases hm2 with rfl | rfl
        · exact ⟨(2 + t3).toNat, by rw [Int.toNat_of_nonneg (by omega)], by omega, by omega⟩
        · exact ⟨(2 + t4 / 100).toNat, by rw [Int.toNat_of_nonneg (by omega)], by omega, by omega⟩
      walk_at "rd"
      intro o1 H11 ho1 e11 f11
      walk_at "rd"
      refine ⟨p, o1, _, _, t, d, rfl, by walk_at "lk", by walk_at "lk", b1, b2, b3, ht1, hd0, hd1, fun z x y H12 hz b1 b2 b3 g12 f12 => ?_⟩
      walk_at "rd"
      have e12 : Same H H12 := by walk_at "sm"
      have hpn : H p = none := Z.fr hp e1
      clear e1 e2 f2 g3 f3 g4 f4 e5 f5 g6 f6 g7 f7 g8 f8 e9 f9 g10 f10 e11 f11 g12
      refine r_cut (fun σ' H' => ∃ v, NoFr v H' ∧ Same H H' ∧ ∃ y1 y2, σ' = [some (.ref a), y1, y2, some (.int t), some (.int d), some v, z6, z7]) ?_ ?_
      · walk_at "rd"
        refine ⟨p, _, _, 8, rfl, f12, b1, b2, b3, by decide, by decide, fun w3 x y H13 d3 d4 b1 b2 b3 g13 f13 => ?_⟩
        walk_at "rd"
        refine r_ite (fun h1 => ?_) (fun h1 => ?_)
        · walk_at "rd"
          intro q1 G1 m1 s1 k1
          walk_at "rd"
          intro q2 G2 m2 s2 k2
          walk_at "rd"
          intro q3 G3 m3 s3 k3
          walk_at "rd"
          intro q4 G4 m4 s4 k4
          walk_at "rd"
          refine ⟨p, _, _, 6, rfl, by walk_at "lk", b1, b2, b3, by decide, by decide, fun w4 x y H14 d5 d6 b1 b2 b3 g14 f14 => ?_⟩
          obtain ⟨v3, hv3, hm3⟩ := at_in (xs := [V.non, V.int 5, V.bl true, V.ref q1, V.ref q2, V.ref q3]) d5 d6
          walk_at "rd"
          have k1' : H14 q1 = some (.lst [.str "1"]) := by walk_at "lk"
          have k2' : H14 q2 = some (.tup [.int 1, .int 2]) := by walk_at "lk"
          have k3' : H14 q3 = some (.dK []) := by walk_at "lk"
          refine ⟨v3, ?_, by walk_at "sm", _, _, rfl⟩
          simp only [List.mem_cons, List.not_mem_nil, or_false] at hm3
          rcases hm3 with rfl | rfl | rfl | rfl | rfl | rfl
          · exact .inr (.inl rfl)
          · exact .inr (.inr (.inl ⟨_, rfl⟩))
          · exact .inr (.inr (.inr (.inl ⟨_, rfl⟩)))
          · exact .inr (.inr (.inr (.inr (.inl ⟨_, _, rfl, k1'⟩))))
          · exact .inr (.inr (.inr (.inr (.inr (.inl ⟨_, _, rfl, k2'⟩)))))
          · exact .inr (.inr (.inr (.inr (.inr (.inr ⟨_, _, rfl, k3'⟩)))))
        · walk_at "rd"
          exact ⟨_, nf_nofr hz, by walk_at "sm", _, _, rfl⟩
      rintro σ' H13 ⟨v, hn, e13, y1, y2, rfl⟩
      walk_at "rd"
      refine ⟨v, rfl, hn, fun H14 e14 => ?_⟩
      walk_at "rd"
      refine ⟨1 + t, d, by rw [Int.natCast_add]; rfl, by omega, by omega, fun o2 H15 ho2 e15 f15 => ?_⟩
      have g0 : 0 < Nat.gcd (1 + t) d := Nat.gcd_pos_of_pos_right _ (by omega)
      have hgg := lowest_gcd (t := 1 + t) (b := d) (by omega)
      have hdd : 0 < d / Nat.gcd (1 + t) d := Nat.div_pos (Nat.gcd_le_right _ (by omega)) g0
      have hdl : d / Nat.gcd (1 + t) d < 10 ^ 60 := Nat.lt_of_le_of_lt (Nat.div_le_self _ _) (by omega)
      have htl : (1 + t) / Nat.gcd (1 + t) d < 10 ^ 60 := Nat.lt_of_le_of_lt (Nat.div_le_self _ _) (by omega)
      revert f15 hgg hdd hdl htl
      generalize (1 + t) / Nat.gcd (1 + t) d = n1
      generalize d / Nat.gcd (1 + t) d = d1
      intro f15 hgg hdd hdl htl
      have h1 := len60 htl
      have h2 := len60 hdl
      walk_at "rd"
      refine r_cut (fun σ' H' => H15 = H' ∧ ∃ y1 y2 y3, σ' = [some (.ref a), y1, y2, some (.int t), some (.int d), y3, some (.ref o2), some (.str (S (fracL n1 d1)))]) ?_ ?_
      · walk_at "rd"
        have en : intL (n1 : Int) = numL n1 := by
          unfold intL
          rw [if_neg (by omega), Int.natAbs_natCast]
        refine r_ite (fun h3 => ?_) (fun h3 => ?_)
        · walk_at "rd"
          have tt : S (numL n1) = S (fracL (n1 : Int) d1) := by
            unfold fracL
            rw [if_pos (by omega), en]
          refine ⟨rfl, y1, y2, some v, ?_⟩
          rw [tt]
        · walk_at "rd"
          have tt : S (numL n1) ++ Str.ofString "/" ++ S (numL d1) = S (fracL (n1 : Int) d1) := by
            unfold fracL
            rw [if_neg (by omega), en, ← M.S_app]
            exact ext_tl (by simp only [tl_append, List.append_assoc]; rfl)
          refine ⟨rfl, y1, y2, some v, ?_⟩
          rw [tt]
      rintro σ' _ ⟨rfl, y3, y4, y5, rfl⟩
      have back : fracIn (fracL (n1 : Int) d1) 60 = some ((n1 : Int), d1) := frac_back (len60 (by omega)) h2 hdd (by rw [Int.natAbs_natCast]; exact hgg)
      walk_at "rd"
      refine ⟨_, rfl, .inl ⟨fracL n1 d1, n1, d1, rfl, Nat.le_trans (fracL_len (by omega) hdl) (by decide), back, fun o3 H16 ho3 e16 f16 => ?_⟩⟩
      walk_at "rd"
      refine r_neD (d := .tuple [.int n1, .int d1]) (e := .tuple [.int n1, .int d1]) (by walk_at "lk") (by walk_at "lk") ?_ rfl rfl
      rw [eqv2]
      walk_at "rd"
      refine r_bF (by simp) ?_
      walk_at "rd"
      exact ⟨_, _, _, _, _, _, _, rfl, by walk_at "sm"⟩
    · rintro σ H2 ⟨z1, z2, z3, z4, z5, z6, z7, rfl, e1⟩
      walk_at "rd"
      exact q H2
end
/-! ### the head: facts by names, the run -/
def dd_is_whole : He.DefD := ⟨("is_whole", none), "is_whole", "is_whole", defArgs s_is_whole, defBody s_is_whole, defScope s_is_whole, [], []⟩
def dd_divisor : He.DefD := ⟨("divisor", none), "divisor", "divisor", defArgs s_divisor, defBody s_divisor, defScope s_divisor, [], []⟩
def dd_lowest : He.DefD := ⟨("lowest", none), "lowest", "lowest", defArgs s_lowest, defBody s_lowest, defScope s_lowest, [], []⟩
def dd_fraction : He.DefD := ⟨("fraction", none), "fraction", "fraction", defArgs s_fraction, defBody s_fraction, defScope s_fraction, [.int 1], []⟩
def dd_whole_in : He.DefD := ⟨("whole_in", none), "whole_in", "whole_in", defArgs s_whole_in, defBody s_whole_in, defScope s_whole_in, [], []⟩
def dd_fraction_in : He.DefD := ⟨("fraction_in", none), "fraction_in", "fraction_in", defArgs s_fraction_in, defBody s_fraction_in, defScope s_fraction_in, [], []⟩
def dd_read_fraction : He.DefD := ⟨("read_fraction", none), "read_fraction", "read_fraction", defArgs s_read_fraction, defBody s_read_fraction, defScope s_read_fraction, [], []⟩
def dd_law_pool : He.DefD := ⟨("_law_pool", none), "_law_pool", "_law_pool", defArgs s_law_pool, defBody s_law_pool, defScope s_law_pool, [], []⟩
def dd_law_take : He.DefD := ⟨("_law_take", none), "_law_take", "_law_take", defArgs s_law_take, defBody s_law_take, defScope s_law_take, [], []⟩
def dd_law_low : He.DefD := ⟨("_law_low", none), "_law_low", "_law_low", defArgs s_law_low, defBody s_law_low, defScope s_law_low, [], []⟩
def dd_law_great : He.DefD := ⟨("_law_great", none), "_law_great", "_law_great", defArgs s_law_great, defBody s_law_great, defScope s_law_great, [], []⟩
def dd_law_odd : He.DefD := ⟨("_law_odd", none), "_law_odd", "_law_odd", defArgs s_law_odd, defBody s_law_odd, defScope s_law_odd, [], []⟩
def dd_law_is_refused : He.DefD := ⟨("_law_is_refused", none), "_law_is_refused", "_law_is_refused", defArgs s_law_is_refused, defBody s_law_is_refused, defScope s_law_is_refused, [], []⟩
def dd_law : He.DefD := ⟨("law", none), "law", "law", defArgs s_law, defBody s_law, defScope s_law, [], []⟩
def di_NoTongue : He.DefD := ⟨("NoTongue", some "__init__"), "__init__", "NoTongue.__init__", defArgs si_NoTongue, defBody si_NoTongue, defScope si_NoTongue, [], []⟩
def di_NoWants : He.DefD := ⟨("NoWants", some "__init__"), "__init__", "NoWants.__init__", defArgs si_NoWants, defBody si_NoWants, defScope si_NoWants, [], []⟩
def di_NoThing : He.DefD := ⟨("NoThing", some "__init__"), "__init__", "NoThing.__init__", defArgs si_NoThing, defBody si_NoThing, defScope si_NoThing, [], []⟩
def di_BadSign : He.DefD := ⟨("BadSign", some "__init__"), "__init__", "BadSign.__init__", defArgs si_BadSign, defBody si_BadSign, defScope si_BadSign, [], []⟩
def di_NoText : He.DefD := ⟨("NoText", some "__init__"), "__init__", "NoText.__init__", defArgs si_NoText, defBody si_NoText, defScope si_NoText, [], []⟩
def fn : List He.DefD := [dd_is_whole, dd_divisor, dd_lowest, dd_fraction, dd_whole_in, dd_fraction_in, dd_read_fraction, dd_law_pool, dd_law_take, dd_law_low, dd_law_great, dd_law_odd, dd_law_is_refused, dd_law, di_NoTongue, di_NoWants, di_NoThing, di_BadSign, di_NoText]
def fa : List He.Fa := [.glo "is_whole", .glo "divisor", .glo "lowest", .glo "fraction", .glo "whole_in", .glo "fraction_in", .glo "read_fraction", .glo "_law_pool", .glo "_law_take", .glo "_law_low", .glo "_law_great", .glo "_law_odd", .glo "_law_is_refused", .glo "law", .free "ValueError", .free "abs", .free "all", .free "bool", .free "int", .free "isinstance", .free "len", .free "max", .free "min", .free "range", .free "str", .str "FIGURES" "0123456789", .int "MOST_FIGURES" 60, .glo "DearError", .glo "NoNumber", .glo "NoBook", .glo "NoTree", .glo "TooMany", .glo "NoCount", .glo "NoUndo", .glo "NoTurn", .glo "NoRow", .glo "Unknown", .glo "NoTongue", .glo "NoWants", .glo "NoThing", .glo "BadSign", .glo "NoText"]
abbrev R : PySem.W.OpenRow := PySem.W.OpenLaw.row PySem.Challenge.rw_dearsigns_k62_fractions_refused
def exb : PySem.W.Frag → Bool := Z.exsB "DearError" ecs ems ens
abbrev hk : PySem.W.Hook := Z.hookE 5 fa fn exb
def ob (s : PySem.W.SharedT) : Z.AlE := Z.obsE 5 fa fn exb (HandSHeadRun.getT s)
theorem ob_eq (s : PySem.W.SharedT) : ob s = hk.obs s.abs := Z.obsE_eq (HandSHeadRun.getT_eq s)
def loose0 : List Str := ["DearError", "NoNumber", "NoBook", "NoTree", "TooMany", "NoCount", "NoUndo", "NoTurn", "NoRow", "Unknown", "NoTongue", "NoWants", "NoThing", "BadSign", "NoText", "is_whole", "divisor", "lowest", "fraction", "FIGURES", "MOST_FIGURES", "whole_in", "fraction_in", "read_fraction", "_law_pool", "_law_take", "_law_low", "_law_great", "_law_odd", "_law_is_refused"]
def loose : List Str := loose0
set_option maxHeartbeats 0 in
theorem run (w : World) : HandSHeadRun.RunEq R (PySem.W.view R.prog [34]) hk ob 8000 loose w := by
  intro os
  kernel_rfl
theorem facts {K : PySem.W.Frag} {h : Heap} {mg : Str → Option Value} (X : K.In h) (G : h.Ns mainGlobals mg) (c : Z.SaysE fa fn exb K) : Txt K mg where
  ex := Z.exsB_ok X G c.more
  i_NoTongue := by
    obtain ⟨fd, F⟩ := c.d.def_ 14 (d := di_NoTongue) rfl
    exact ⟨fd, F⟩
  i_NoWants := by
    obtain ⟨fd, F⟩ := c.d.def_ 15 (d := di_NoWants) rfl
    exact ⟨fd, F⟩
  i_NoThing := by
    obtain ⟨fd, F⟩ := c.d.def_ 16 (d := di_NoThing) rfl
    exact ⟨fd, F⟩
  i_BadSign := by
    obtain ⟨fd, F⟩ := c.d.def_ 17 (d := di_BadSign) rfl
    exact ⟨fd, F⟩
  i_NoText := by
    obtain ⟨fd, F⟩ := c.d.def_ 18 (d := di_NoText) rfl
    exact ⟨fd, F⟩
  d_is_whole := by
    obtain ⟨fd, F⟩ := c.d.def_ 0 (d := dd_is_whole) rfl
    exact ⟨_, fd, F, He.glo_ok X G (c.d.fact 0 (f := .glo "is_whole") rfl)⟩
  d_divisor := by
    obtain ⟨fd, F⟩ := c.d.def_ 1 (d := dd_divisor) rfl
    exact ⟨_, fd, F, He.glo_ok X G (c.d.fact 1 (f := .glo "divisor") rfl)⟩
  d_lowest := by
    obtain ⟨fd, F⟩ := c.d.def_ 2 (d := dd_lowest) rfl
    exact ⟨_, fd, F, He.glo_ok X G (c.d.fact 2 (f := .glo "lowest") rfl)⟩
  d_fraction := by
    obtain ⟨fd, F⟩ := c.d.def_ 3 (d := dd_fraction) rfl
    exact ⟨_, fd, F, He.glo_ok X G (c.d.fact 3 (f := .glo "fraction") rfl)⟩
  d_whole_in := by
    obtain ⟨fd, F⟩ := c.d.def_ 4 (d := dd_whole_in) rfl
    exact ⟨_, fd, F, He.glo_ok X G (c.d.fact 4 (f := .glo "whole_in") rfl)⟩
  d_fraction_in := by
    obtain ⟨fd, F⟩ := c.d.def_ 5 (d := dd_fraction_in) rfl
    exact ⟨_, fd, F, He.glo_ok X G (c.d.fact 5 (f := .glo "fraction_in") rfl)⟩
  d_read_fraction := by
    obtain ⟨fd, F⟩ := c.d.def_ 6 (d := dd_read_fraction) rfl
    exact ⟨_, fd, F, He.glo_ok X G (c.d.fact 6 (f := .glo "read_fraction") rfl)⟩
  d_law_pool := by
    obtain ⟨fd, F⟩ := c.d.def_ 7 (d := dd_law_pool) rfl
    exact ⟨_, fd, F, He.glo_ok X G (c.d.fact 7 (f := .glo "_law_pool") rfl)⟩
  d_law_take := by
    obtain ⟨fd, F⟩ := c.d.def_ 8 (d := dd_law_take) rfl
    exact ⟨_, fd, F, He.glo_ok X G (c.d.fact 8 (f := .glo "_law_take") rfl)⟩
  d_law_low := by
    obtain ⟨fd, F⟩ := c.d.def_ 9 (d := dd_law_low) rfl
    exact ⟨_, fd, F, He.glo_ok X G (c.d.fact 9 (f := .glo "_law_low") rfl)⟩
  d_law_great := by
    obtain ⟨fd, F⟩ := c.d.def_ 10 (d := dd_law_great) rfl
    exact ⟨_, fd, F, He.glo_ok X G (c.d.fact 10 (f := .glo "_law_great") rfl)⟩
  d_law_odd := by
    obtain ⟨fd, F⟩ := c.d.def_ 11 (d := dd_law_odd) rfl
    exact ⟨_, fd, F, He.glo_ok X G (c.d.fact 11 (f := .glo "_law_odd") rfl)⟩
  d_law_is_refused := by
    obtain ⟨fd, F⟩ := c.d.def_ 12 (d := dd_law_is_refused) rfl
    exact ⟨_, fd, F, He.glo_ok X G (c.d.fact 12 (f := .glo "_law_is_refused") rfl)⟩
  d_law := by
    obtain ⟨fd, F⟩ := c.d.def_ 13 (d := dd_law) rfl
    exact ⟨_, fd, F, He.glo_ok X G (c.d.fact 13 (f := .glo "law") rfl)⟩
  b_ValueError := He.free_ok X G (c.d.fact 14 (f := .free "ValueError") rfl)
  b_abs := He.free_ok X G (c.d.fact 15 (f := .free "abs") rfl)
  b_all := He.free_ok X G (c.d.fact 16 (f := .free "all") rfl)
  b_bool := He.free_ok X G (c.d.fact 17 (f := .free "bool") rfl)
  b_int := He.free_ok X G (c.d.fact 18 (f := .free "int") rfl)
  b_isinstance := He.free_ok X G (c.d.fact 19 (f := .free "isinstance") rfl)
  b_len := He.free_ok X G (c.d.fact 20 (f := .free "len") rfl)
  b_max := He.free_ok X G (c.d.fact 21 (f := .free "max") rfl)
  b_min := He.free_ok X G (c.d.fact 22 (f := .free "min") rfl)
  b_range := He.free_ok X G (c.d.fact 23 (f := .free "range") rfl)
  b_str := He.free_ok X G (c.d.fact 24 (f := .free "str") rfl)
  c_FIGURES := by
    obtain ⟨t, e⟩ := He.str_ok X G (c.d.fact 25 (f := .str "FIGURES" "0123456789") rfl)
    exact ⟨_, e, t, rfl⟩
  c_MOST_FIGURES := by
    obtain ⟨t, e⟩ := He.int_ok X G (c.d.fact 26 (f := .int "MOST_FIGURES" 60) rfl)
    exact ⟨_, e, t, rfl⟩
  k_DearError := He.glo_ok X G (c.d.fact 27 (f := .glo "DearError") rfl)
  k_NoNumber := He.glo_ok X G (c.d.fact 28 (f := .glo "NoNumber") rfl)
  k_NoBook := He.glo_ok X G (c.d.fact 29 (f := .glo "NoBook") rfl)
  k_NoTree := He.glo_ok X G (c.d.fact 30 (f := .glo "NoTree") rfl)
  k_TooMany := He.glo_ok X G (c.d.fact 31 (f := .glo "TooMany") rfl)
  k_NoCount := He.glo_ok X G (c.d.fact 32 (f := .glo "NoCount") rfl)
  k_NoUndo := He.glo_ok X G (c.d.fact 33 (f := .glo "NoUndo") rfl)
  k_NoTurn := He.glo_ok X G (c.d.fact 34 (f := .glo "NoTurn") rfl)
  k_NoRow := He.glo_ok X G (c.d.fact 35 (f := .glo "NoRow") rfl)
  k_Unknown := He.glo_ok X G (c.d.fact 36 (f := .glo "Unknown") rfl)
  k_NoTongue := He.glo_ok X G (c.d.fact 37 (f := .glo "NoTongue") rfl)
  k_NoWants := He.glo_ok X G (c.d.fact 38 (f := .glo "NoWants") rfl)
  k_NoThing := He.glo_ok X G (c.d.fact 39 (f := .glo "NoThing") rfl)
  k_BadSign := He.glo_ok X G (c.d.fact 40 (f := .glo "BadSign") rfl)
  k_NoText := He.glo_ok X G (c.d.fact 41 (f := .glo "NoText") rfl)
theorem law_starts {K : PySem.W.Frag} : ∀ (H : Hp) (a : Addr) (ns : List Int), ns.length ≤ 63 → Only H → SqL K H a (ns.map V.int) → sp_law K [.ref a] H (fun v _ => v = .bl true) fun _ _ _ => False := fun H a ns hl _ hS => ⟨a, ns, rfl, hS, hl, fun _ => rfl⟩
end My
open PySem PySem.W PySem.Calls PyProof.Rows
set_option maxHeartbeats 0 in
theorem PySem.Challenge.cw_dearsigns_k62_fractions_refused_holds : PySem.Challenge.rw_dearsigns_k62_fractions_refused.Holds := by
  w_on; o_law
  refine HandSHeadRun.head_any (r := OpenLaw.row PySem.Challenge.rw_dearsigns_k62_fractions_refused) (q := view (OpenLaw.row PySem.Challenge.rw_dearsigns_k62_fractions_refused).prog [34]) (H := My.hk) (ob := My.ob) (M := 8000) (loose := My.loose) (d := HandSHeadRun.topDef (OpenLaw.row PySem.Challenge.rw_dearsigns_k62_fractions_refused).prog 34) (kwd := []) My.ob_eq
    (by kernel_rfl) (fun s => by kernel_rfl) My.run (by kernel_rfl) (by kernel_rfl) (by kernel_rfl) (by rfl) (by first | assumption | decide +kernel) (by decide +kernel) ⟨rfl, rfl, rfl, rfl, rfl, by decide +kernel⟩ ?hw ?hc
  case hw => w_witness2
  case hc =>
    refine L2.walk_ofE (l := PySem.Challenge.rw_dearsigns_k62_fractions_refused) (n := 63) (k := 7) (x := "_law_script") (CX := L2.CX0) rfl (by decide) (by kernel_rfl) ⟨rfl, by decide, by decide⟩ ?F (fun _ _ _ _ z => z)
    intro w mg fa h Y G hmg0
    obtain ⟨K, KX, c⟩ := Y
    have hmg : mg ("law" : PySem.Str) = some (.ref fa) := by
      have e : (HandSHeadRun.topDef (OpenLaw.row PySem.Challenge.rw_dearsigns_k62_fractions_refused).prog 34).name = ("law" : PySem.Str) := by kernel_rfl
      rw [← e]
      exact hmg0
    have T : My.Txt K mg := My.facts KX G c
    obtain ⟨fd, hb, hF⟩ := My.ok_law (P := (PySem.Challenge.rw_dearsigns_k62_fractions_refused).prog) (w := w) T hmg
    exact ⟨K, fd, My.sp_law K, KX, hb, My.law_starts, fun base _ _ => hF base⟩

