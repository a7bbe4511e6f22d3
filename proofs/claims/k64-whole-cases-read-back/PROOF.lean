import PyProof.Rows.All
import Wide.All
import OpenK.AllK
import Wide.FinOn
import HandS.ForMost
import HandS.Wide
import HandS.FStr
import HandS.IsInst
import HandS.Defaults
import HandS.Codes
import HandS.TupAny
import HandS.Exc
import HandS.WordsExc
import HandS.Steps
import HandS.Walk
import HandS.Evl
import HandS.Head0
import HandS.Head1
import HandS.Head2
import HandS.HeadEnd
import HandS.HeadHook1
import HandS.HeadHook2
import KE.KIsAll
import HandS.ExcInit
import HandS.ExcIs
import HandS.ExcField
import HandS.ExcOwn
import HandS.Small
import HandS.ClsMeth
import HandS.CallSlots
import HandS.ExcValue
import HandS.SortInts
import HandS.Conv
import HandS.Strs
import PyProof.Rows.SetFrom
import HandS.Style
import HandS.TryOnly
import PySem.Challenge.RW_dearsigns_k64_whole_cases_read_back
set_option Elab.async false
set_option linter.all false
set_option maxRecDepth 100000
set_option maxHeartbeats 4000000
/-! Zk: own reading steps over the hand layer. -/
namespace Z
open PySem PySem.Spec PyProof.Rows L2

/-! ### calls of defs, packed -/
structure Cf (P : Program) (w : World) (K : PySem.W.Frag) (mg : Str → Option Value) (base : Heap) (CX : CXT) (k : Nat) (x : Str) (sp : Sp) (dvs : List V) : Prop where
  ex : ∃ (f : Addr) (fd : FuncData) (ps : List Str) (ds : List Value), FnOk P w K mg base CX k f fd ps sp ∧ mg x = some (.ref f) ∧ PySem.W.keepIn K (.ref f) = true ∧ Binds K fd ps ds ∧ Vals dvs ds
abbrev C0 (P : Program) (w : World) (K : PySem.W.Frag) (mg : Str → Option Value) (base : Heap) (k : Nat) (x : Str) (sp : Sp) : Prop := Cf P w K mg base CX0 k x sp []
abbrev CE (P : Program) (w : World) (K : PySem.W.Frag) (mg : Str → Option Value) (base : Heap) (k : Nat) (x : Str) (sp : Sp) : Prop := Cf P w K mg base (L2.CX P w) k x sp []
theorem Cf.mono {P : Program} {w : World} {K : PySem.W.Frag} {mg : Str → Option Value} {base : Heap} {CX : CXT} {j k : Nat} {x : Str} {sp : Sp} {dvs : List V} (c : Cf P w K mg base CX j x sp dvs) (h : j ≤ k) : Cf P w K mg base CX k x sp dvs := by
  obtain ⟨f, fd, ps, ds, F, r⟩ := c.ex
  exact ⟨f, fd, ps, ds, F.mono h, r⟩
section
variable {X : Cx} {k j : Nat} {x : Str} {sp : Sp} {dvs : List V} {p pos : Pos} {e : Expr} {es : List Expr} {t : TA}
theorem pe_c0 (c : Cf X.prog X.w X.K X.mg X.base CX0 k x sp dvs) (hr : Room j X.A) (hk : k ≤ j) (hg : Gl X x) (ha : PA X (e :: es) t)
    (hdb : (x == ("__debug__" : Str)) = false := by decide) (he : starEach (e :: es) X.env = (false, eval e X.env) :: starEach es X.env := by rfl) (hpl : (backTo pos (starEach es X.env)).any (·.1) = false := by rfl) :
    PE X (.Call (.Name x p) (e :: es) [] pos) (tCall sp dvs E0 t) := by
  obtain ⟨f, fd, ps, ds, F, hm, kp, b, d⟩ := c.ex
  exact pe_call F (hr.mono hk) hg hm kp b d pass0 ha hdb he hpl
end
/-- a def as it stands behind the top -/
structure At (K : PySem.W.Frag) (mg : Str → Option Value) (g x : Str) (st : Stmt) (dvs : List V) : Prop where
  ex : ∃ (f : Addr) (fd : FuncData), FunD K x x (defArgs st) (defBody st) (defScope st) dvs [] f fd ∧ mg g = some (.ref f)
section
variable {P : Program} {w : World} {K : PySem.W.Frag} {mg : Str → Option Value} {base : Heap} {g x : Str} {st : Stmt} {dvs : List V}
/-- binding where nothing has a default; h is «fun _ _ _ _ _ _ us hl => match us, hl with | [_, _], _ => rfl» -/
theorem bd0 {ps : List Str} (h : ∀ (kV doc pm : Value) (an : Option Addr) (cdv ct : Value) (us : List Value), us.length = ps.length → bindArgs (PySem.W.fnOf x x (defArgs st) (defBody st) (defScope st) .none kV doc pm an cdv ct) ⟨us, []⟩ = pure (ps.zip us)) :
    ∀ (f : Addr) (fd : FuncData), FunD K x x (defArgs st) (defBody st) (defScope st) [] [] f fd → Binds K fd ps [] := fun f fd F => by
  obtain ⟨oc, od, dV, kV, doc, pm, an, cdv, ct, osl, rfl, _, _, hD, _⟩ := F.ex
  rcases hD with ⟨_, rfl⟩ | ⟨n, _⟩
  · exact .all (h kV doc pm an cdv ct)
  · exact absurd rfl n
/-- all given, some have defaults; h is «fun _ _ _ _ _ _ _ us its hu hi => match us, its, hu, hi with | [_, _], [_], _, _ => ⟨_, rfl, rfl⟩» -/
theorem bd1 {ps : List Str} (hd : dvs ≠ []) (h : ∀ (T : Addr) (kV doc pm : Value) (an : Option Addr) (cdv ct : Value) (us its : List Value), us.length = ps.length → its.length = dvs.length →
      ∃ k, bindArgs (PySem.W.fnOf x x (defArgs st) (defBody st) (defScope st) (.ref T) kV doc pm an cdv ct) ⟨us, []⟩ = seqItems? (.ref T) >>= k ∧ k (some its.toArray) = pure (ps.zip (us ++ its.drop dvs.length))) :
    ∀ (f : Addr) (fd : FuncData), FunD K x x (defArgs st) (defBody st) (defScope st) dvs [] f fd → Binds K fd ps [] := fun f fd F => by
  obtain ⟨ds, v, b⟩ := F.binds1 ps.length dvs.length hd (by omega) h
  rw [List.drop_length] at v
  cases v
  exact b
/-- THE RULE: h is «fun _ _ _ _ _ _ us hl => match us, hl with | [_, _], _ => rfl» -/
theorem At.c0 {N ps : List Str} {k : Nat} {sp : Sp} (F : At K mg g x st dvs) (S : FnScope N ps (defScope st)) (len : ∀ vs H Q E, sp vs H Q E → vs.length = ps.length)
    (b : ∀ (f : Addr) (fd : FuncData), FunD K x x (defArgs st) (defBody st) (defScope st) dvs [] f fd → Binds K fd ps [])
    (hbody : ∀ (f : Addr) (cdv : Value) (A : Around) (outer : List Env) (s : Shared) (H : Hp) (vs : List V) (Q : VK) (E : XK), Room k (A.deeper (envOfC x (defScope st) s.heap.objs.size f cdv)) → sp vs H Q E →
      ∃ t, PSs (cxOf CX0 P w K mg base N x (defScope st) f cdv A outer s H E).nox (defBody st) t ∧ t { nx := fun _ H' => Q .non H', rt := Q } (start N vs) H) : C0 P w K mg base (k + 1) g sp := by
  obtain ⟨f, fd, F, hm⟩ := F.ex
  have G : FnOk P w K mg base CX0 (k + 1) f fd ps sp := F.ok S len fun cdv A outer s H vs Q E hr h => by
    obtain ⟨t, h1, h2⟩ := hbody f cdv A outer s H vs Q E hr h
    exact ⟨t, h1.nox, h2⟩
  exact ⟨f, fd, ps, [], G, hm, F.kp, b f fd F, .nil⟩
theorem At.ce {N ps : List Str} {k : Nat} {sp : Sp} (F : At K mg g x st dvs) (S : FnScope N ps (defScope st)) (len : ∀ vs H Q E, sp vs H Q E → vs.length = ps.length)
    (b : ∀ (f : Addr) (fd : FuncData), FunD K x x (defArgs st) (defBody st) (defScope st) dvs [] f fd → Binds K fd ps [])
    (hbody : ∀ (f : Addr) (cdv : Value) (A : Around) (outer : List Env) (s : Shared) (H : Hp) (vs : List V) (Q : VK) (E : XK), Room k (A.deeper (envOfC x (defScope st) s.heap.objs.size f cdv)) → sp vs H Q E →
      ∃ t, PSs (cxOf (L2.CX P w) P w K mg base N x (defScope st) f cdv A outer s H E) (defBody st) t ∧ t { nx := fun _ H' => Q .non H', rt := Q } (start N vs) H) : CE P w K mg base (k + 1) g sp := by
  obtain ⟨f, fd, F, hm⟩ := F.ex
  have G : FnOk P w K mg base (L2.CX P w) (k + 1) f fd ps sp := F.ok S len fun cdv A outer s H vs Q E hr h => hbody f cdv A outer s H vs Q E hr h
  exact ⟨f, fd, ps, [], G, hm, F.kp, b f fd F, .nil⟩
end

section
variable {P : Program} {w : World} {K : PySem.W.Frag} {mg : Str → Option Value} {g x : Str} {st : Stmt} {dvs : List V}
/-- the law itself -/
theorem At.law {N : List Str} {p : Str} {k : Nat} {sp : Sp} {fa : Addr} (F : At K mg g x st []) (hmg : mg g = some (.ref fa)) (S : FnScope N [p] (defScope st)) (len : ∀ vs H Q E, sp vs H Q E → vs.length = 1)
    (b : ∀ (kV doc pm : Value) (an : Option Addr) (cdv ct : Value) (u : Value), bindArgs (PySem.W.fnOf x x (defArgs st) (defBody st) (defScope st) .none kV doc pm an cdv ct) ⟨[u], []⟩ = pure [(p, u)])
    (hbody : ∀ (base : Heap) (f : Addr) (cdv : Value) (A : Around) (outer : List Env) (s : Shared) (H : Hp) (vs : List V) (Q : VK) (E : XK), Room k (A.deeper (envOfC x (defScope st) s.heap.objs.size f cdv)) → sp vs H Q E →
      ∃ t, PSs (cxOf CX0 P w K mg base N x (defScope st) f cdv A outer s H E).nox (defBody st) t ∧ t { nx := fun _ H' => Q .non H', rt := Q } (start N vs) H) :
    ∃ fd : FuncData, (∀ (s : Shared) (u : Value), BindsTo s fd ⟨[u], []⟩ [(p, u)]) ∧ ∀ base : Heap, FnOk P w K mg base CX0 (k + 1) fa fd [p] sp := by
  obtain ⟨f, fd, F, hm⟩ := F.ex
  have e : fa = f := by
    have h := hmg.symm.trans hm
    injection h with h
    injection h
  subst e
  refine ⟨fd, ?_, fun base => F.ok S len fun cdv A outer s H vs Q E hr h => ?_⟩
  · obtain ⟨oc, od, dV, kV, doc, pm, an, cdv, ct, osl, rfl, _, _, hD, _⟩ := F.ex
    rcases hD with ⟨_, rfl⟩ | ⟨n, _⟩
    · exact fun s u => .of_eq (b kV doc pm an cdv ct u)
    · exact absurd rfl n
  · obtain ⟨t, h1, h2⟩ := hbody base fa cdv A outer s H vs Q E hr h
    exact ⟨t, h1.nox, h2⟩
end

/-! ### operations of several kinds -/
section
variable {X : Cx}
def rAddS : R2 := fun x y H Q => ∃ i j, x = .str i ∧ y = .str j ∧ i.length + j.length ≤ sizeLine ∧ Q (.str (i ++ j)) H
def rAddI : R2 := rI0 fun i j => .int (i + j)
def rAddP (K : PySem.W.Frag) : R2 := fun x y H Q => rAddI x y H Q ∨ rAddS x y H Q ∨ rCat x y H Q ∨ rCatA K x y H Q
theorem op_addP : OpR X (binaryOp .Add) (rAddP X.K) := OpR.or op_add (OpR.or op_add_str (OpR.or op_cat op_catA))
def CMulP (i j : Int) : Prop := CMul i j ∨ CMulW i j
theorem op_mulI : OpR X (binaryOp .Mult) (rI CMulP fun i j => .int (i * j)) := opI fun _ _ _ _ _ _ _ hc q => mul_int q (hc.elim CMul.ok CMulW.ok)
def rMulI : R2 := rI CMulP fun i j => .int (i * j)
def rMulP : R2 := fun x y H Q => rMulI x y H Q ∨ rRep x y H Q
theorem op_mulP : OpR X (binaryOp .Mult) rMulP := OpR.or op_mulI op_rep
def CDivP (i j : Int) : Prop := CDiv i j ∨ CDivW i j
theorem op_fdivP : OpR X (binaryOp .FloorDiv) (rI CDivP fun i j => .int (i / j)) := opI fun i j t u s Q E hc q => by
  have h1 : (0 : Int) < j := by rcases hc with h | h <;> exact h.1
  refine floordiv_int (by omega) (by rw [Int.fdiv_eq_ediv_of_nonneg i (by omega)]; exact q) (.inl ?_)
  rcases hc with h | h
  · have h2 := h.2
    exact PyProof.noPylong_small (by omega)
  · exact PyProof.noPylong_of_log2 h.2
def rDiv : R2 := rI CDivP fun i j => .int (i / j)
def rMod : R2 := rI (fun _ j => 0 < j) fun i j => .int (i % j)
def rSub : R2 := rI0 fun i j => .int (i - j)
def rPow : R2 := rI CPow fun i j => .int (i ^ j.toNat)
theorem op_div : OpR X (binaryOp .FloorDiv) rDiv := op_fdivP
theorem op_modP : OpR X (binaryOp .Mod) rMod := op_mod
theorem op_subI : OpR X (binaryOp .Sub) rSub := op_sub
theorem op_powI : OpR X (binaryOp .Pow) rPow := op_pow
def rEqP (K : PySem.W.Frag) : R2 := fun x y H Q => rEq x y H Q ∨ rEqD K x y H Q
def rNeP (K : PySem.W.Frag) : R2 := fun x y H Q => rNe x y H Q ∨ rNeD K x y H Q
theorem op_eqP (hu : X.A.units + 64 < cLine) : OpR X (compareOp .Eq) (rEqP X.K) := OpR.or op_eq (op_eqD hu)
theorem op_neP (hu : X.A.units + 64 < cLine) : OpR X (compareOp .NotEq) (rNeP X.K) := OpR.or op_ne (op_neD hu)
def rLtI : R2 := rI0 fun i j => .bl (decide (i < j))
def rLeI : R2 := rI0 fun i j => .bl (decide (i ≤ j))
def rGtI : R2 := rI0 fun i j => .bl (decide (j < i))
def rGeI : R2 := rI0 fun i j => .bl (decide (j ≤ i))
theorem op_ltI : OpR X (compareOp .Lt) rLtI := op_lt
theorem op_leI : OpR X (compareOp .LtE) rLeI := op_le
theorem op_gtI : OpR X (compareOp .Gt) rGtI := op_gt
theorem op_geI : OpR X (compareOp .GtE) rGeI := op_ge
def rIs : R2 := fun x y H Q => y = .non ∧ Q (.bl (decide (x = .non))) H
def rIsNot : R2 := fun x y H Q => y = .non ∧ Q (.bl (!decide (x = .non))) H
theorem op_isP : OpR X (compareOp .Is) rIs := op_isN
theorem op_isNotP : OpR X (compareOp .IsNot) rIsNot := op_notN
/-- one sign in a text; a flat thing in a list or tuple of flat things -/
def rInT (neg : Bool) : R2 := fun x y H Q => ∃ (c : Nat) (z : Str), x = .str ⟨#[c]⟩ ∧ y = .str z ∧ Q (.bl (if neg then !decide (c ∈ z.cps.toList) else decide (c ∈ z.cps.toList))) H
def rInP (K : PySem.W.Frag) (neg : Bool) : R2 := fun x y H Q => rInT neg x y H Q ∨ rIn K neg x y H Q
theorem op_inP : OpR X (compareOp .In) (rInP X.K false) := OpR.or op_in_sign op_in_seq
theorem op_notInP : OpR X (compareOp .NotIn) (rInP X.K true) := OpR.or op_notIn_sign op_notIn_seq
def rSlP (K : PySem.W.Frag) : V → Option Int → Option Int → Hp → VK → Prop := fun x lo hi H Q => rSlL K x lo hi H Q ∨ rSlS x lo hi H Q ∨ rSlA K x lo hi H Q
theorem sl_any : SlR X (rSlP X.K) := sl_list.or (sl_str.or sl_tupA)
/-- calls of builtins -/
def cLen (K : PySem.W.Frag) : List V → Hp → VK → Prop := fun xs H Q => ∃ x n, xs = [x] ∧ LenV K x H n ∧ Q (.int n) H
theorem call_lenP : CallR X (.builtin "len") (cLen X.K) := call_len
def cAbs : List V → Hp → VK → Prop := fun xs H Q => ∃ i, xs = [.int i] ∧ Q (.int (if i < 0 then -i else i)) H
theorem call_absP : CallR X (.builtin "abs") cAbs := call_abs
def cMax : List V → Hp → VK → Prop := fun xs H Q => ∃ i j, xs = [.int i, .int j] ∧ Q (.int (if j > i then j else i)) H
theorem call_maxP (hc : X.calm = true) : CallR X (.builtin "max") cMax := call_max2 hc
def cMin : List V → Hp → VK → Prop := fun xs H Q => ∃ i j, xs = [.int i, .int j] ∧ Q (.int (if j < i then j else i)) H
theorem call_minP (hc : X.calm = true) : CallR X (.builtin "min") cMin := call_min2 hc
def cStr : List V → Hp → VK → Prop := fun xs H Q => ∃ i, xs = [.int i] ∧ i.natAbs.log2 < 1920 ∧ Q (.str (toString i)) H
theorem call_strP : CallR X (.type "str") cStr := call_str_int
def cInt : List V → Hp → VK → Prop := fun xs H Q => ∃ a n, xs = [.str a] ∧ PySem.intText? a = some n ∧ a.length ≤ 640 ∧ Q (.int n) H
theorem call_intP : CallR X (.type "int") cInt := call_int_str
def cList (K : PySem.W.Frag) : List V → Hp → VK → Prop := fun xs H Q => ∃ p ys, xs = [.ref p] ∧ (SqL K H p ys ∨ SqT K H p ys) ∧ ∀ l, H l = none → Q (.ref l) (upd H l (.lst ys))
theorem call_listP : CallR X (.type "list") (cList X.K) := call_list_of
def mSplit : V → List V → Hp → VK → Prop := fun x xs H Q => ∃ a b, x = .str a ∧ xs = [.str b] ∧ (b.length == 0) = false ∧ a.length + 2 ≤ sizeLine ∧ rNewStrs (Txt.split a b) H Q
theorem mt_splitP : MtR X "str.split" mSplit := mt_split
def mJoin (K : PySem.W.Frag) : V → List V → Hp → VK → Prop := fun x xs H Q => ∃ a p, ∃ ys : List Str, x = .str a ∧ xs = [.ref p] ∧ (SqL K H p (ys.map V.str) ∨ SqT K H p (ys.map V.str)) ∧ (ys.map (·.length)).sum + ys.length * a.length ≤ 16777216 ∧ Q (.str (Txt.join a ys)) H
end

/-! the written part's name kept: K in place of X.K (a block's context is another one) -/
section
variable {X : Cx}
theorem k_addP (K : PySem.W.Frag) (hK : X.K = K := by rfl) : OpR X (binaryOp .Add) (rAddP K) := hK ▸ op_addP
theorem k_eqP (K : PySem.W.Frag) (hu : X.A.units + 64 < cLine) (hK : X.K = K := by rfl) : OpR X (compareOp .Eq) (rEqP K) := hK ▸ op_eqP hu
theorem k_neP (K : PySem.W.Frag) (hu : X.A.units + 64 < cLine) (hK : X.K = K := by rfl) : OpR X (compareOp .NotEq) (rNeP K) := hK ▸ op_neP hu
theorem k_inP (K : PySem.W.Frag) (hK : X.K = K := by rfl) : OpR X (compareOp .In) (rInP K false) := hK ▸ op_inP
theorem k_notInP (K : PySem.W.Frag) (hK : X.K = K := by rfl) : OpR X (compareOp .NotIn) (rInP K true) := hK ▸ op_notInP
theorem k_ix (K : PySem.W.Frag) (hK : X.K = K := by rfl) : IxR X (rIx K) := hK ▸ ix_seq
theorem k_sl (K : PySem.W.Frag) (hK : X.K = K := by rfl) : SlR X (rSlP K) := hK ▸ sl_any
theorem k_len (K : PySem.W.Frag) (hK : X.K = K := by rfl) : CallR X (.builtin "len") (cLen K) := hK ▸ call_lenP
theorem k_isi (K : PySem.W.Frag) (hK : X.K = K := by rfl) : CallR X (.builtin "isinstance") (rIsi K) := hK ▸ call_isi
theorem k_isiT (K : PySem.W.Frag) (hK : X.K = K := by rfl) : CallR X (.builtin "isinstance") (rIsiT K) := hK ▸ call_isiT
theorem k_all (K : PySem.W.Frag) (hc : X.calm = true) (hK : X.K = K := by rfl) : CallR X (.builtin "all") (rAll K) := hK ▸ cr_all hc
theorem k_any (K : PySem.W.Frag) (hc : X.calm = true) (hK : X.K = K := by rfl) : CallR X (.builtin "any") (rAny K) := hK ▸ cr_any hc
theorem k_list (K : PySem.W.Frag) (hK : X.K = K := by rfl) : CallR X (.type "list") (cList K) := hK ▸ call_listP
theorem k_join (K : PySem.W.Frag) (hK : X.K = K := by rfl) : MtR X "str.join" (mJoin K) := hK ▸ mt_join
variable {o e : Expr} {es : List Expr} {to te : TE} {t : TA} {name : Str} {id : String} {T : String} {apos cpos pos : Pos}
theorem k_bm0 (K : PySem.W.Frag) {r : V → List V → Hp → VK → Prop} (pa : PlainAttrs T) (slot : Slot T name id) (hty : typeOf (.builtin id) = pure (.type "method_descriptor")) (hm : MtR X id r) (ho : PE X o to)
    (hbase : attributeBase o name X.env (eval o X.env) = eval o X.env := by rfl) (hline : (apos.endLine == cpos.line) = true := by rfl) (hK : X.K = K := by rfl) : PE X (.Call (.Attribute o name apos) [] [] cpos) (tBM0 K T r to) := hK ▸ pe_bm0 pa slot hty hm ho hbase hline
theorem k_bm (K : PySem.W.Frag) {r : V → List V → Hp → VK → Prop} (pa : PlainAttrs T) (slot : Slot T name id) (hty : typeOf (.builtin id) = pure (.type "method_descriptor")) (hm : MtR X id r) (ho : PE X o to) (ha : PA X (e :: es) t)
    (hbase : attributeBase o name X.env (eval o X.env) = eval o X.env := by rfl)
    (hfew : ((backTo cpos (starEach (e :: es) X.env)).all (fun x => !x.1) && (backToKw cpos (keywordEach [] X.env)).all (fun x => x.1.isSome)
      && decide ((e :: es).length + ([] : List Keyword).length + (if ([] : List Keyword).isEmpty then 0 else 1) < 30)) = true := by rfl)
    (hline : (apos.endLine == cpos.line) = true := by rfl) (hs : starEach (e :: es) X.env = (false, eval e X.env) :: starEach es X.env := by rfl) (hplain : (backTo cpos (starEach es X.env)).any (·.1) = false := by rfl) (hK : X.K = K := by rfl) :
    PE X (.Call (.Attribute o name apos) (e :: es) [] cpos) (tBM K T r to t) := hK ▸ pe_bm pa slot hty hm ho ha hbase hfew hline hs hplain
theorem k_tup (K : PySem.W.Frag) {es : List Expr} {k : Nat} {t : TGs} {n : Nat} (hc : X.calm = true) (h : PGs X es t)
    (hn : (assignEach es X.env).length = n := by rfl) (hst : (assignEach es X.env).findIdx? (·.1) = none := by rfl) (hK : X.K = K := by rfl) : PG X (.Tuple es k pos) (gTup K n t) := hK ▸ pg_tup hc h hn hst
theorem k_iL (K : PySem.W.Frag) {tg l : Expr} {tl : TE} (hl : PE X l tl) (hK : X.K = K := by rfl) : PI X tg l (iList K tl) := hK ▸ pi_list hl
theorem k_iT (K : PySem.W.Frag) {tg l : Expr} {tl : TE} (hl : PE X l tl) (hK : X.K = K := by rfl) : PI X tg l (iTup K tl) := hK ▸ pi_tup hl
theorem k_iE (K : PySem.W.Frag) {ta : TA} {p pos tpos : Pos} {elts : List Expr} {kk : Nat} (hg : Gl X "enumerate") (hm : X.mg "enumerate" = none) (ha : PA X [e] ta) (hs : starEach [e] X.env = [(false, eval e X.env)] := by rfl) (hK : X.K = K := by rfl) :
    PI X (.Tuple elts kk tpos) (.Call (.Name "enumerate" p) [e] [] pos) (iEnum K ta) := hK ▸ pi_enum hg hm ha hs
theorem k_iZ (K : PySem.W.Frag) {e2 : Expr} {ta : TA} {p pos tpos : Pos} {elts : List Expr} {kk : Nat} (hg : Gl X "zip") (hm : X.mg "zip" = none) (ha : PA X [e, e2] ta)
    (hs : starEach [e, e2] X.env = (false, eval e X.env) :: starEach [e2] X.env := by rfl) (hpl : (backTo pos (starEach [e2] X.env)).any (·.1) = false := by rfl) (hK : X.K = K := by rfl) :
    PI X (.Tuple elts kk tpos) (.Call (.Name "zip" p) [e, e2] [] pos) (iZip K ta) := hK ▸ pi_zip hg hm ha hs hpl
end

/-! ### heaps -/
theorem Same.new {H : Hp} {p : Addr} {o : HO} (h : H p = none) : Same H (upd H p o) := fun b x e => by
  rw [upd_ne (ne_of_none e h)]
  exact e
/-- all but l stays -/
def But (l : Addr) (H H' : Hp) : Prop := ∀ b o, b ≠ l → H b = some o → H' b = some o
theorem But.upd {H : Hp} {l : Addr} {o : HO} : But l H (upd H l o) := fun b x n e => by
  rw [upd_ne n]
  exact e
theorem up {H H' : Hp} {a : Addr} {o : HO} (e : Same H H') (h : H a = some o) : H' a = some o := e a o h
theorem upB {H H' : Hp} {l a : Addr} {o : HO} (e : But l H H') (n : a ≠ l) (h : H a = some o) : H' a = some o := e a o n h
theorem upL {K : PySem.W.Frag} {H H' : Hp} {a : Addr} {xs : List V} (e : Same H H') (h : SqL K H a xs) : SqL K H' a xs := e.seq h
theorem upLB {K : PySem.W.Frag} {H H' : Hp} {l a : Addr} {xs : List V} (e : But l H H') (n : a ≠ l) (h : SqL K H a xs) : SqL K H' a xs := by
  rcases h with (h | ⟨o, h⟩) | h
  · exact .inl (.inl (e _ _ n h))
  · exact .inl (.inr ⟨o, e _ _ n h⟩)
  · exact .inr h
theorem upT {K : PySem.W.Frag} {H H' : Hp} {a : Addr} {xs : List V} (e : Same H H') (h : SqT K H a xs) : SqT K H' a xs := by
  rcases h with (h | ⟨o, h⟩) | h
  · exact .inl (.inl (e _ _ h))
  · exact .inl (.inr ⟨o, e _ _ h⟩)
  · exact .inr h
theorem upTB {K : PySem.W.Frag} {H H' : Hp} {l a : Addr} {xs : List V} (e : But l H H') (n : a ≠ l) (h : SqT K H a xs) : SqT K H' a xs := by
  rcases h with (h | ⟨o, h⟩) | h
  · exact .inl (.inl (e _ _ n h))
  · exact .inl (.inr ⟨o, e _ _ n h⟩)
  · exact .inr h
theorem sqL {K : PySem.W.Frag} {H : Hp} {a : Addr} {xs : List V} (h : H a = some (.lst xs)) : SqL K H a xs := .inl (.inl h)
theorem sqT {K : PySem.W.Frag} {H : Hp} {a : Addr} {xs : List V} (h : H a = some (.tup xs)) : SqT K H a xs := .inl (.inl h)
theorem Same.tr {A m B : Hp} (h2 : Same m B) (h1 : Same A m) : Same A B := h1.trans h2
/-- a new object changed: the elder heap stays -/
theorem Same.but {A m B : Hp} {l : Addr} (b : But l m B) (n : A l = none) (h1 : Same A m) : Same A B := fun a o e => b a o (ne_of_none e n) (h1 a o e)
theorem But.tr {A m B : Hp} {l : Addr} (h2 : Same m B) (h1 : But l A m) : But l A B := fun a o n e => h2 a o (h1 a o n e)
theorem But.of {A B : Hp} {l : Addr} (h : Same A B) : But l A B := fun a o _ e => h a o e
theorem But.but {A m B : Hp} {l : Addr} (h2 : But l m B) (h1 : But l A m) : But l A B := fun a o n e => h2 a o n (h1 a o n e)
theorem But.but2 {A m B : Hp} {l k : Addr} (h2 : But k m B) (n : A k = none) (h1 : But l A m) : But l A B := fun a o ne e => h2 a o (ne_of_none e n) (h1 a o ne e)
theorem fr {A B : Hp} {p : Addr} (h : B p = none) (e : Same A B) : A p = none := e.free h
theorem frB {A B : Hp} {l p : Addr} (h : B p = none) (n : p ≠ l) (e : But l A B) : A p = none := by
  cases q : A p with
  | none => rfl
  | some o =>
    rw [e p o n q] at h
    cases h
theorem ne1 {H : Hp} {a l : Addr} {o : HO} (h : H l = none) (h2 : H a = some o) : a ≠ l := ne_of_none h2 h

theorem szl {n : Nat} (h : n ≤ 16777216) : n ≤ sizeLine := by rw [sizeLine_eq]; exact h
theorem szlt {n : Nat} (h : n < 16777216) : n < sizeLine := by rw [sizeLine_eq]; exact h
theorem len_empty : Str.empty.length = 0 := rfl
theorem len_app (a b : Str) : (a ++ b).length = a.length + b.length := Str.length_append a b
/-! ### data -/
mutual
theorem dpUp {K : PySem.W.Frag} {H H' : Hp} (e : Same H H') : ∀ {v : V} {d : PyData}, Dp K H v d → Dp K H' v d
  | _, _, .non => .non
  | _, _, .bl b => .bl b
  | _, _, .int i => .int i
  | _, _, .str x => .str x
  | _, _, .lst h r => .lst (upL e h) (dpsUp e r)
  | _, _, .tup h r => .tup (upT e h) (dpsUp e r)
theorem dpsUp {K : PySem.W.Frag} {H H' : Hp} (e : Same H H') : ∀ {vs : List V} {ds : List PyData}, DpAll K H vs ds → DpAll K H' vs ds
  | _, _, .nil => .nil
  | _, _, .cons h r => .cons (dpUp e h) (dpsUp e r)
end

/-! ### readings, one step -/
section
variable {K : PySem.W.Frag} {σ : L2.St} {H : Hp} {Q : VK} {QB : Bool → Hp → Prop} {QA : List V → Hp → Prop} {ta tb tc te : TE} {tA tB' : TT} {tr : TA} {r r' : R2} {v : V} {i j : Int} {D : Ends} {t u : TS} {g : TG} {b : Bool}
theorem r_var {n : Nat} (h : σ[n]? = some (some v)) (q : Q v H) : tVar n σ H Q := ⟨v, h, q⟩
theorem r_c (q : Q v H) : tC v σ H Q := q
theorem r_op (q : ta σ H fun x H1 => tb σ H1 fun y H2 => r x y H2 Q) : tOp r ta tb σ H Q := q
theorem r_un {ru : V → Hp → VK → Prop} (q : ta σ H fun x H1 => ru x H1 Q) : tUn ru ta σ H Q := q
theorem r_I0 {f : Int → Int → V} (q : Q (f i j) H) : rI0 f (.int i) (.int j) H Q := ⟨i, j, rfl, rfl, q⟩
theorem r_I {C : Int → Int → Prop} {f : Int → Int → V} (q : Q (f i j) H) (c : C i j) : rI C f (.int i) (.int j) H Q := ⟨i, j, rfl, rfl, c, q⟩
theorem r_U {f : Int → V} (q : Q (f i) H) : rU f (.int i) H Q := ⟨i, rfl, q⟩
theorem r_addI (q : Q (.int (i + j)) H) : rAddP K (.int i) (.int j) H Q := .inl ⟨i, j, rfl, rfl, q⟩
theorem r_addS {x y : Str} (q : Q (.str (x ++ y)) H) (h : x.length + y.length ≤ sizeLine) : rAddP K (.str x) (.str y) H Q := .inr (.inl ⟨x, y, rfl, rfl, h, q⟩)
theorem r_addL {l m : Addr} {xs ys : List V} (h1 : H l = some (.lst xs)) (h2 : H m = some (.lst ys)) (q : ∀ p H', H p = none → Same H H' → H' p = some (.lst (xs ++ ys)) → Q (.ref p) H') (h : xs.length + ys.length ≤ sizeLine) : rAddP K (.ref l) (.ref m) H Q :=
  .inr (.inr (.inl ⟨l, m, xs, ys, rfl, rfl, h1, h2, h, fun p hp => q p _ hp (Same.new hp) upd_same⟩))
theorem r_mulI (q : Q (.int (i * j)) H) (c : CMulP i j) : rMulP (.int i) (.int j) H Q := .inl ⟨i, j, rfl, rfl, c, q⟩
theorem r_sub (q : Q (.int (i - j)) H) : rSub (.int i) (.int j) H Q := ⟨i, j, rfl, rfl, q⟩
theorem r_mod (q : Q (.int (i % j)) H) (c : 0 < j) : rMod (.int i) (.int j) H Q := ⟨i, j, rfl, rfl, c, q⟩
theorem r_div (q : Q (.int (i / j)) H) (c : CDivP i j) : rDiv (.int i) (.int j) H Q := ⟨i, j, rfl, rfl, c, q⟩
theorem r_pow (q : Q (.int (i ^ j.toNat)) H) (c : CPow i j) : rPow (.int i) (.int j) H Q := ⟨i, j, rfl, rfl, c, q⟩
theorem p10_6 (q : Q (.int 1000000) H) : rPow (.int 10) (.int 6) H Q := ⟨10, 6, rfl, rfl, by unfold CPow; decide, q⟩
theorem p10_8 (q : Q (.int 100000000) H) : rPow (.int 10) (.int 8) H Q := ⟨10, 8, rfl, rfl, by unfold CPow; decide, q⟩
theorem p10_9 (q : Q (.int 1000000000) H) : rPow (.int 10) (.int 9) H Q := ⟨10, 9, rfl, rfl, by unfold CPow; decide, q⟩
theorem p10_18 (q : Q (.int 1000000000000000000) H) : rPow (.int 10) (.int 18) H Q := ⟨10, 18, rfl, rfl, by unfold CPow; decide, q⟩
theorem r_eq {x y : V} (q : Q (.bl (decide (x = y))) H) (h : scal x y = true) : rEqP K x y H Q := .inl ⟨h, q⟩
theorem r_ne {x y : V} (q : Q (.bl (!decide (x = y))) H) (h : scal x y = true) : rNeP K x y H Q := .inl ⟨h, q⟩
theorem r_eqI (q : Q (.bl (decide (i = j))) H) : rEqP K (.int i) (.int j) H Q := .inl ⟨rfl, by
  rw [show decide (V.int i = V.int j) = decide (i = j) by simp]
  exact q⟩
theorem r_neI (q : Q (.bl (!decide (i = j))) H) : rNeP K (.int i) (.int j) H Q := .inl ⟨rfl, by
  rw [show decide (V.int i = V.int j) = decide (i = j) by simp]
  exact q⟩
theorem r_eqS {x y : Str} (q : Q (.bl (decide (x = y))) H) : rEqP K (.str x) (.str y) H Q := .inl ⟨rfl, by
  rw [show decide (V.str x = V.str y) = decide (x = y) by simp]
  exact q⟩
theorem r_neS {x y : Str} (q : Q (.bl (!decide (x = y))) H) : rNeP K (.str x) (.str y) H Q := .inl ⟨rfl, by
  rw [show decide (V.str x = V.str y) = decide (x = y) by simp]
  exact q⟩
theorem r_eqD {x y : V} {d e : PyData} (hd : Dp K H x d) (he : Dp K H y e) (q : Q (.bl (PyData.eqv d e)) H) (h1 : SeqAt.shaped d = true) (h2 : SeqAt.shaped e = true) : rEqP K x y H Q := .inr ⟨d, e, hd, he, h1, h2, q⟩
theorem r_neD {x y : V} {d e : PyData} (hd : Dp K H x d) (he : Dp K H y e) (q : Q (.bl (!PyData.eqv d e)) H) (h1 : SeqAt.shaped d = true) (h2 : SeqAt.shaped e = true) : rNeP K x y H Q := .inr ⟨d, e, hd, he, h1, h2, q⟩
theorem r_lt (q : Q (.bl (decide (i < j))) H) : rLtI (.int i) (.int j) H Q := ⟨i, j, rfl, rfl, q⟩
theorem r_le (q : Q (.bl (decide (i ≤ j))) H) : rLeI (.int i) (.int j) H Q := ⟨i, j, rfl, rfl, q⟩
theorem r_gt (q : Q (.bl (decide (j < i))) H) : rGtI (.int i) (.int j) H Q := ⟨i, j, rfl, rfl, q⟩
theorem r_ge (q : Q (.bl (decide (j ≤ i))) H) : rGeI (.int i) (.int j) H Q := ⟨i, j, rfl, rfl, q⟩
theorem r_isN (q : Q (.bl true) H) : rIs .non .non H Q := ⟨rfl, q⟩
theorem r_isI (q : Q (.bl false) H) : rIs (.int i) .non H Q := ⟨rfl, q⟩
theorem r_isS {x : Str} (q : Q (.bl false) H) : rIs (.str x) .non H Q := ⟨rfl, q⟩
theorem r_isR {x : Addr} (q : Q (.bl false) H) : rIs (.ref x) .non H Q := ⟨rfl, q⟩
theorem r_isB {x : Bool} (q : Q (.bl false) H) : rIs (.bl x) .non H Q := ⟨rfl, q⟩
theorem r_notN (q : Q (.bl false) H) : rIsNot .non .non H Q := ⟨rfl, q⟩
theorem r_notI (q : Q (.bl true) H) : rIsNot (.int i) .non H Q := ⟨rfl, q⟩
theorem r_notS {x : Str} (q : Q (.bl true) H) : rIsNot (.str x) .non H Q := ⟨rfl, q⟩
theorem r_notR {x : Addr} (q : Q (.bl true) H) : rIsNot (.ref x) .non H Q := ⟨rfl, q⟩
theorem r_inT {c : Nat} {z : Str} (q : Q (.bl (decide (c ∈ z.cps.toList))) H) : rInP K false (.str ⟨#[c]⟩) (.str z) H Q := .inl ⟨c, z, rfl, rfl, q⟩
theorem r_notInT {c : Nat} {z : Str} (q : Q (.bl (!decide (c ∈ z.cps.toList))) H) : rInP K true (.str ⟨#[c]⟩) (.str z) H Q := .inl ⟨c, z, rfl, rfl, q⟩
theorem r_inL {x : V} {p : Addr} {xs : List V} (hp : SqL K H p xs) (q : Q (.bl (inV x xs)) H) (fx : flatV x = true) (fs : xs.all flatV = true) : rInP K false x (.ref p) H Q := .inr ⟨p, xs, rfl, .inl hp, fx, fs, q⟩
theorem r_notInL {x : V} {p : Addr} {xs : List V} (hp : SqL K H p xs) (q : Q (.bl (!inV x xs)) H) (fx : flatV x = true) (fs : xs.all flatV = true) : rInP K true x (.ref p) H Q := .inr ⟨p, xs, rfl, .inl hp, fx, fs, q⟩
theorem r_ixL {p : Addr} {xs : List V} (h : SqL K H p xs) (a : atI xs i = some v) (q : Q v H) : rIx K (.ref p) (.int i) H Q := .inl ⟨p, xs, i, v, rfl, rfl, h, a, q⟩
theorem r_ixT {p : Addr} {xs : List V} (h : SqT K H p xs) (a : atI xs i = some v) (q : Q v H) : rIx K (.ref p) (.int i) H Q := .inr (.inl ⟨p, xs, i, v, rfl, rfl, h, a, q⟩)
theorem r_ixS {z : Str} {c : Nat} (h : z.length ≤ sizeLine) (a : atI z.cps.toList i = some c) (q : Q (.str ⟨#[c]⟩) H) : rIx K (.str z) (.int i) H Q := .inr (.inr ⟨z, i, c, rfl, rfl, h, a, q⟩)
/-- slices -/
theorem r_slL {p : Addr} {xs : List V} {lo hi : Option Int} (h : SqL K H p xs) (q : ∀ p H', H p = none → Same H H' → H' p = some (.lst (cutV xs lo hi)) → Q (.ref p) H') : rSlP K (.ref p) lo hi H Q := .inl ⟨p, xs, rfl, h, fun p hp => q p _ hp (Same.new hp) upd_same⟩
theorem r_slS {z : Str} {lo hi : Option Int} (q : Q (.str (cutS z lo hi)) H) (h : z.length ≤ sizeLine) : rSlP K (.str z) lo hi H Q := .inr (.inl ⟨z, rfl, h, q⟩)
theorem r_sl {rs : V → Option Int → Option Int → Hp → VK → Prop} {tl th : TO} (q : te σ H fun x H1 => tl σ H1 fun l H2 => th σ H2 fun u H3 => rs x l u H3 Q) : tSl rs te tl th σ H Q := q
theorem r_part {QO : Option Int → Hp → Prop} (q : te σ H fun x H1 => ∃ i, x = .int i ∧ QO (some i) H1) : tPart te σ H QO := q
theorem r_exI {QO : Int → Prop} (q : QO i) : ∃ k, V.int i = .int k ∧ QO k := ⟨i, rfl, q⟩
theorem r_noPart {QO : Option Int → Hp → Prop} (q : QO none H) : tNoPart σ H QO := q
/-- displays -/
def NewT (xs : List V) (H : Hp) (Q : VK) : Prop := xs.length ≤ sizeLine ∧ ∀ p, H p = none → Q (.ref p) (upd H p (.tup xs))
def NewL (xs : List V) (H : Hp) (Q : VK) : Prop := xs.length ≤ sizeLine ∧ ∀ p, H p = none → Q (.ref p) (upd H p (.lst xs))
theorem r_tup (q : tr σ H fun xs H1 => NewT xs H1 Q) : tTup tr σ H Q := q
theorem r_lst (q : tr σ H fun xs H1 => NewL xs H1 Q) : tLst tr σ H Q := q
theorem r_newT {xs : List V} (q : ∀ p H', H p = none → Same H H' → H' p = some (.tup xs) → Q (.ref p) H') (h : xs.length ≤ sizeLine) : NewT xs H Q := ⟨h, fun p hp => q p _ hp (Same.new hp) upd_same⟩
theorem r_newL {xs : List V} (q : ∀ p H', H p = none → Same H H' → H' p = some (.lst xs) → Q (.ref p) H') (h : xs.length ≤ sizeLine) : NewL xs H Q := ⟨h, fun p hp => q p _ hp (Same.new hp) upd_same⟩
theorem r_new {xs : List V} (q : ∀ p H', H p = none → Same H H' → H' p = some (.lst xs) → Q (.ref p) H') : ∀ p, H p = none → Q (.ref p) (upd H p (.lst xs)) := fun p hp => q p _ hp (Same.new hp) upd_same
theorem r_nil (q : QA [] H) : tNil σ H QA := q
theorem r_cons (q : ta σ H fun x H1 => tr σ H1 fun xs H2 => QA (x :: xs) H2) : tCons ta tr σ H QA := q
theorem r_CB {rc : List V → Hp → VK → Prop} (q : tr σ H fun vs H1 => rc vs H1 Q) : tCB rc tr σ H Q := q
theorem r_call {sp : Sp} {dvs : List V} {E : XK} (q : tr σ H fun vs H1 => sp (vs ++ dvs) H1 Q E) : tCall sp dvs E tr σ H Q := q
theorem r_BM {T : String} {rm : V → List V → Hp → VK → Prop} (q : te σ H fun x H1 => tyV K T x H1 ∧ tr σ H1 fun xs H2 => rm x xs H2 Q) : tBM K T rm te tr σ H Q := q
theorem r_BM0 {T : String} {rm : V → List V → Hp → VK → Prop} (q : te σ H fun x H1 => tyV K T x H1 ∧ rm x [] H1 Q) : tBM0 K T rm te σ H Q := q
theorem r_abs (q : Q (.int (i.natAbs : Nat)) H) : cAbs [.int i] H Q := ⟨i, rfl, by
  rw [show (if i < 0 then -i else i) = ((i.natAbs : Nat) : Int) by split <;> omega]
  exact q⟩
theorem r_max (q : Q (.int (if j > i then j else i)) H) : cMax [.int i, .int j] H Q := ⟨i, j, rfl, q⟩
theorem r_min (q : Q (.int (if j < i then j else i)) H) : cMin [.int i, .int j] H Q := ⟨i, j, rfl, q⟩
theorem r_lenL {p : Addr} {xs : List V} (h : SqL K H p xs) (q : Q (.int (xs.length : Nat)) H) : cLen K [.ref p] H Q := ⟨_, _, rfl, .inl ⟨xs, h, rfl⟩, q⟩
theorem r_lenT {p : Addr} {xs : List V} (h : SqT K H p xs) (q : Q (.int (xs.length : Nat)) H) : cLen K [.ref p] H Q := ⟨_, _, rfl, .inr ⟨xs, h, rfl⟩, q⟩
theorem r_lenS {z : Str} (q : Q (.int (z.length : Nat)) H) (h : z.length ≤ sizeLine) : cLen K [.str z] H Q := ⟨_, _, rfl, ⟨h, rfl⟩, q⟩
theorem r_strI (q : Q (.str (toString i)) H) (h : i.natAbs.log2 < 1920) : cStr [.int i] H Q := ⟨i, rfl, h, q⟩
theorem r_intS {z : Str} {n : Int} (h : PySem.intText? z = some n) (q : Q (.int n) H) (hl : z.length ≤ 640) : cInt [.str z] H Q := ⟨z, n, rfl, h, hl, q⟩
theorem r_listL {p : Addr} {xs : List V} (h : SqL K H p xs) (q : ∀ p H', H p = none → Same H H' → H' p = some (.lst xs) → Q (.ref p) H') : cList K [.ref p] H Q := ⟨p, xs, rfl, .inl h, fun p hp => q p _ hp (Same.new hp) upd_same⟩
theorem r_listT {p : Addr} {xs : List V} (h : SqT K H p xs) (q : ∀ p H', H p = none → Same H H' → H' p = some (.lst xs) → Q (.ref p) H') : cList K [.ref p] H Q := ⟨p, xs, rfl, .inr h, fun p hp => q p _ hp (Same.new hp) upd_same⟩
theorem r_all {p : Addr} {bs : List Bool} (h : SqL K H p (bs.map V.bl)) (q : Q (.bl (bs.all id)) H) : rAll K [.ref p] H Q := ⟨p, bs, rfl, h, q⟩
theorem r_any {p : Addr} {bs : List Bool} (h : SqL K H p (bs.map V.bl)) (q : Q (.bl (bs.any id)) H) : rAny K [.ref p] H Q := ⟨p, bs, rfl, h, q⟩
/-- isinstance(x, T), T built-in -/
theorem r_isi {x : V} {a c : String} {k : Bool} (ty : TyX K H x (.type a)) (q : Q (.bl k) H) (h : kitB a c = some k) : rIsi K [x, .ty c] H Q := ⟨x, .ty c, .type a, .type c, k, rfl, .ty c, ty, kit_ty h, q⟩
theorem ty_int : TyX K H (.int i) (.type "int") := .base (.int i)
theorem ty_bl : TyX K H (.bl b) (.type "bool") := .base (.bl b)
theorem ty_str {x : Str} : TyX K H (.str x) (.type "str") := .base (.str x)
theorem ty_non : TyX K H .non (.type "NoneType") := .base .non
theorem r_isiHd {x : V} {c : String} (q : rIsi K [x, .ty c] H Q) : rIsi K [x, .ty c] H Q := q
theorem ty_lst {p : Addr} {xs : List V} (h : H p = some (.lst xs)) : TyX K H (.ref p) (.type "list") := .base (.lst h)
theorem ty_tup {p : Addr} {xs : List V} (h : H p = some (.tup xs)) : TyX K H (.ref p) (.type "tuple") := .base (.tup h)
/-- methods -/
theorem r_append {l : Addr} {xs : List V} (h : H l = some (.lst xs)) (q : ∀ H', But l H H' → H' l = some (.lst (xs ++ [v])) → Q .non H') (hz : xs.length < sizeLine) : tyV K "list" (.ref l) H ∧ rAppend (.ref l) [v] H Q :=
  ⟨.inl ⟨rfl, _, .inl (.inl h)⟩, l, xs, v, rfl, rfl, h, hz, q _ But.upd upd_same⟩
theorem r_tyL {l : Addr} {xs : List V} (h : H l = some (.lst xs)) {A : Prop} (q : A) : tyV K "list" (.ref l) H ∧ A := ⟨.inl ⟨rfl, _, .inl (.inl h)⟩, q⟩
theorem r_appendQ {l : Addr} {xs : List V} (h : H l = some (.lst xs)) (q : ∀ H', But l H H' → H' l = some (.lst (xs ++ [v])) → Q .non H') (hz : xs.length < sizeLine) : rAppend (.ref l) [v] H Q :=
  ⟨l, xs, v, rfl, rfl, h, hz, q _ But.upd upd_same⟩
theorem r_tyS {x : Str} {A : Prop} (q : A) : tyV K "str" (.str x) H ∧ A := ⟨rfl, q⟩
theorem r_split {x y : Str} (q : ∀ p H', H p = none → Same H H' → H' p = some (.lst ((Txt.split x y).map V.str)) → Q (.ref p) H') (h : (y.length == 0) = false) (hz : x.length + 2 ≤ sizeLine) : mSplit (.str x) [.str y] H Q :=
  ⟨x, y, rfl, rfl, h, hz, fun p hp => q p _ hp (Same.new hp) upd_same⟩
/-- o[i] = v, o a list -/
theorem r_subTg {to ti : TE} {tset : TSet} {QS : L2.St → Hp → Prop} (q : to σ H fun o H1 => ti σ H1 fun k H2 => tset o k v H2 fun H3 => QS σ H3) : gSub to ti tset v σ H QS := q
theorem r_setL {l : Addr} {xs : List V} {n : Nat} {QH : Hp → Prop} (h : H l = some (.lst xs)) (hi : ixN xs.length i = some n) (q : ∀ H', But l H H' → H' l = some (.lst (xs.set n v)) → QH H') : rSetL (.ref l) (.int i) v H QH :=
  ⟨l, xs, i, n, rfl, rfl, h, hi, q _ But.upd upd_same⟩
/-- f-strings -/
def rFmt : V → Hp → VK → Prop := fun x H Q => (∃ y : Str, x = .str y ∧ y.length ≤ sizeLine ∧ Q (.str y) H) ∨ ∃ i : Int, x = .int i ∧ i.natAbs.log2 < 1920 ∧ Q (.str (toString i)) H
theorem r_fmtI (q : Q (.str (toString i)) H) (h : i.natAbs.log2 < 1920) : rFmt (.int i) H Q := .inr ⟨i, rfl, h, q⟩
theorem r_fmtS {x : Str} (q : Q (.str x) H) (h : x.length ≤ sizeLine) : rFmt (.str x) H Q := .inl ⟨x, rfl, h, q⟩
theorem r_fmt (q : te σ H fun x H1 => rFmt x H1 Q) : tFmt te σ H Q := q
theorem r_joined {ts : List TE} {acc : Str} (q : tJs ts acc σ H fun out H1 => Q (.str out) H1) : (fun σ H Q => tJs ts acc σ H fun out H1 => Q (.str out) H1) σ H Q := q
theorem r_js0 {acc : Str} {QS : Str → Hp → Prop} (q : QS acc H) : tJs [] acc σ H QS := q
theorem r_js {ts : List TE} {acc : Str} {QS : Str → Hp → Prop} (q : te σ H fun x H1 => ∃ y : Str, x = .str y ∧ (acc ++ y).length ≤ sizeLine ∧ tJs ts (acc ++ y) σ H1 QS) : tJs (te :: ts) acc σ H QS := q
theorem r_jsS {ts : List TE} {acc x : Str} {QS : Str → Hp → Prop} (q : tJs ts (acc ++ x) σ H QS) (h : (acc ++ x).length ≤ sizeLine) : ∃ y : Str, V.str x = .str y ∧ (acc ++ y).length ≤ sizeLine ∧ tJs ts (acc ++ y) σ H QS := ⟨x, rfl, h, q⟩
/-- tests -/
theorem r_test (q : te σ H fun x H' => ∃ k, x = .bl k ∧ QB k H') : tTest te σ H QB := q
theorem r_tB (q : te σ H fun x H' => ∃ k, x = .bl k ∧ QB k H') : tB te σ H QB := q
theorem r_exB {QQ : Bool → Prop} (q : QQ b) : ∃ k, V.bl b = .bl k ∧ QQ k := ⟨b, rfl, q⟩
theorem r_and (q : tA σ H fun c H1 => if c = true then tB' σ H1 QB else QB false H1) : tAnd tA tB' σ H QB := q
theorem r_or (q : tA σ H fun c H1 => if c = true then QB true H1 else tB' σ H1 QB) : tOr tA tB' σ H QB := q
theorem r_not (q : tA σ H fun c H1 => QB (!c) H1) : tNot tA σ H QB := q
theorem r_andV (q : ta σ H fun x H1 => ∃ c, x = .bl c ∧ if c = true then tb σ H1 Q else Q (.bl false) H1) : tAndV ta tb σ H Q := q
theorem r_orV (q : ta σ H fun x H1 => ∃ c, x = .bl c ∧ if c = true then Q (.bl true) H1 else tb σ H1 Q) : tOrV ta tb σ H Q := q
theorem r_notV (q : ta σ H fun x H1 => ∃ c, x = .bl c ∧ Q (.bl (!c)) H1) : tNotV ta σ H Q := q
theorem r_chain (q : ta σ H fun x H1 => tb σ H1 fun y H2 => r x y H2 fun z H3 => ∃ k, z = .bl k ∧ (if k = true then tc σ H3 fun w' H4 => r' y w' H4 Q else Q (.bl false) H3)) : tChain r r' ta tb tc σ H Q := q
theorem r_ifE (q : tA σ H fun c H1 => if c = true then ta σ H1 Q else tb σ H1 Q) : tIf tA ta tb σ H Q := q
/-- known outcomes -/
theorem r_T {A B : Prop} (h : A) : if true = true then A else B := by rw [if_pos rfl]; exact h
theorem r_F {A B : Prop} (h : B) : if false = true then A else B := by rw [if_neg Bool.false_ne_true]; exact h
theorem r_nT {A B : Prop} (h : B) : if (!true) = true then A else B := r_F h
theorem r_nF {A B : Prop} (h : A) : if (!false) = true then A else B := r_T h
theorem r_dT {p : Prop} [Decidable p] {A B : Prop} (hp : p) (h : A) : if decide p = true then A else B := by rw [decide_eq_true hp]; exact r_T h
theorem r_dF {p : Prop} [Decidable p] {A B : Prop} (hp : ¬ p) (h : B) : if decide p = true then A else B := by rw [decide_eq_false hp]; exact r_F h
theorem r_ndT {p : Prop} [Decidable p] {A B : Prop} (hp : p) (h : B) : if (!decide p) = true then A else B := by rw [decide_eq_true hp]; exact r_F h
theorem r_ndF {p : Prop} [Decidable p] {A B : Prop} (hp : ¬ p) (h : A) : if (!decide p) = true then A else B := by rw [decide_eq_false hp]; exact r_T h
theorem r_bT {c : Bool} {A B : Prop} (hc : c = true) (h : A) : if c = true then A else B := by rw [hc]; exact r_T h
theorem r_bF {c : Bool} {A B : Prop} (hc : c = false) (h : B) : if c = true then A else B := by rw [hc]; exact r_F h
theorem r_ite {p : Prop} [Decidable p] {A B : Prop} (h1 : p → A) (h2 : ¬ p → B) : if decide p = true then A else B := by
  by_cases h : p
  · exact r_dT h (h1 h)
  · exact r_dF h (h2 h)
theorem r_nite {p : Prop} [Decidable p] {A B : Prop} (h1 : ¬ p → A) (h2 : p → B) : if (!decide p) = true then A else B := by
  by_cases h : p
  · exact r_ndT h (h2 h)
  · exact r_ndF h (h1 h)
theorem r_bite {c : Bool} {A B : Prop} (h1 : c = true → A) (h2 : c = false → B) : if c = true then A else B := by
  cases c with
  | true => exact r_T (h1 rfl)
  | false => exact r_F (h2 rfl)
/-- statements -/
theorem r_seq (q : t { D with nx := u D } σ H) : tSeq t u D σ H := q
theorem r_cut (Mid : L2.St → Hp → Prop) (h1 : t { D with nx := Mid } σ H) (h2 : ∀ σ' H', Mid σ' H' → u D σ' H') : Evl.tCut t u D σ H := ⟨Mid, h1, h2⟩
theorem r_next (q : D.nx σ H) : tNext D σ H := q
theorem r_asg (q : te σ H fun x H1 => g x σ H1 D.nx) : tAsg te g D σ H := q
theorem r_par {m n : Nat} {tr : TA} (q : tr σ H fun vs H1 => ∃ v w, vs = [v, w] ∧ D.nx ((σ.set m (some v)).set n (some w)) H1) : tPar m n tr D σ H := q
theorem r_par2 {m n : Nat} {x y : V} (q : (gName m x σ H fun σ' H' => gName n y σ' H' D.nx)) : ∃ v w, [x, y] = [v, w] ∧ D.nx ((σ.set m (some v)).set n (some w)) H := ⟨x, y, rfl, q⟩
theorem r_drop (q : te σ H fun _ H1 => D.nx σ H1) : tDrop te D σ H := q
theorem r_ret (q : te σ H D.rt) : tRet te D σ H := q
theorem r_retN (q : D.rt .non H) : tRetN D σ H := q
theorem r_ifS (q : tA σ H fun b H1 => if b = true then t D σ H1 else u D σ H1) : tIfS tA t u D σ H := q
theorem r_brk (q : D.bk σ H) : tBreak D σ H := q
theorem r_cnt (q : D.ct σ H) : tCont D σ H := q
theorem r_tg {n : Nat} {ts : TGs} {a : Addr} {xs : List V} {QS : L2.St → Hp → Prop} (h : SqT K H a xs) (q : ts xs σ H QS) (hl : xs.length = n) : gTup K n ts (.ref a) σ H QS := ⟨a, xs, rfl, h, hl, q⟩
theorem r_gnil {QS : L2.St → Hp → Prop} (q : QS σ H) : gNil [] σ H QS := ⟨rfl, q⟩
theorem r_gcons {ts : TGs} {x : V} {xs : List V} {QS : L2.St → Hp → Prop} (q : g x σ H fun σ' H' => ts xs σ' H' QS) : gCons g ts (x :: xs) σ H QS := ⟨x, xs, rfl, q⟩
theorem r_aug {n : Nat} {f : Int → Int → Int} (h : σ[n]? = some (some (.int i))) (q : te σ H fun y H1 => ∃ k, y = .int k ∧ gName n (.int (f i k)) σ H1 D.nx) : tAug n te (ipI f) D σ H := by
  refine ⟨_, h, ?_⟩
  have e : (fun y H1 => ∃ k, y = V.int k ∧ gName n (.int (f i k)) σ H1 D.nx) = fun y H1 => ipI f (.int i) y H1 fun z H2 => D.nx (σ.set n (some z)) H2 := by
    funext y H1
    apply propext
    constructor
    · rintro ⟨k, rfl, h⟩
      exact ⟨i, k, rfl, rfl, h⟩
    · rintro ⟨a, k, e, rfl, h⟩
      cases e
      exact ⟨k, rfl, h⟩
  rw [← e]
  exact q
end
/-! names stored, by place -/
section
variable {H : Hp} {v : V} {QS : L2.St → Hp → Prop} {r : L2.St} {a0 a1 a2 a3 a4 a5 a6 a7 a8 a9 b0 b1 b2 b3 b4 b5 b6 b7 b8 b9 : Option V}
theorem v0 {w : V} {QV : VK} (q : QV w H) : tVar 0 (some w :: r) H QV := ⟨w, rfl, q⟩
theorem v1 {w : V} {QV : VK} (q : QV w H) : tVar 1 (a0 :: some w :: r) H QV := ⟨w, rfl, q⟩
theorem v2 {w : V} {QV : VK} (q : QV w H) : tVar 2 (a0 :: a1 :: some w :: r) H QV := ⟨w, rfl, q⟩
theorem v3 {w : V} {QV : VK} (q : QV w H) : tVar 3 (a0 :: a1 :: a2 :: some w :: r) H QV := ⟨w, rfl, q⟩
theorem v4 {w : V} {QV : VK} (q : QV w H) : tVar 4 (a0 :: a1 :: a2 :: a3 :: some w :: r) H QV := ⟨w, rfl, q⟩
theorem v5 {w : V} {QV : VK} (q : QV w H) : tVar 5 (a0 :: a1 :: a2 :: a3 :: a4 :: some w :: r) H QV := ⟨w, rfl, q⟩
theorem v6 {w : V} {QV : VK} (q : QV w H) : tVar 6 (a0 :: a1 :: a2 :: a3 :: a4 :: a5 :: some w :: r) H QV := ⟨w, rfl, q⟩
theorem v7 {w : V} {QV : VK} (q : QV w H) : tVar 7 (a0 :: a1 :: a2 :: a3 :: a4 :: a5 :: a6 :: some w :: r) H QV := ⟨w, rfl, q⟩
theorem v8 {w : V} {QV : VK} (q : QV w H) : tVar 8 (a0 :: a1 :: a2 :: a3 :: a4 :: a5 :: a6 :: a7 :: some w :: r) H QV := ⟨w, rfl, q⟩
theorem v9 {w : V} {QV : VK} (q : QV w H) : tVar 9 (a0 :: a1 :: a2 :: a3 :: a4 :: a5 :: a6 :: a7 :: a8 :: some w :: r) H QV := ⟨w, rfl, q⟩
theorem v10 {w : V} {QV : VK} (q : QV w H) : tVar 10 (a0 :: a1 :: a2 :: a3 :: a4 :: a5 :: a6 :: a7 :: a8 :: a9 :: some w :: r) H QV := ⟨w, rfl, q⟩
theorem v11 {w : V} {QV : VK} (q : QV w H) : tVar 11 (a0 :: a1 :: a2 :: a3 :: a4 :: a5 :: a6 :: a7 :: a8 :: a9 :: b0 :: some w :: r) H QV := ⟨w, rfl, q⟩
theorem v12 {w : V} {QV : VK} (q : QV w H) : tVar 12 (a0 :: a1 :: a2 :: a3 :: a4 :: a5 :: a6 :: a7 :: a8 :: a9 :: b0 :: b1 :: some w :: r) H QV := ⟨w, rfl, q⟩
theorem v13 {w : V} {QV : VK} (q : QV w H) : tVar 13 (a0 :: a1 :: a2 :: a3 :: a4 :: a5 :: a6 :: a7 :: a8 :: a9 :: b0 :: b1 :: b2 :: some w :: r) H QV := ⟨w, rfl, q⟩
theorem v14 {w : V} {QV : VK} (q : QV w H) : tVar 14 (a0 :: a1 :: a2 :: a3 :: a4 :: a5 :: a6 :: a7 :: a8 :: a9 :: b0 :: b1 :: b2 :: b3 :: some w :: r) H QV := ⟨w, rfl, q⟩
theorem n0 (q : QS (some v :: r) H) : gName 0 v (a0 :: r) H QS := q
theorem n1 (q : QS (a0 :: some v :: r) H) : gName 1 v (a0 :: a1 :: r) H QS := q
theorem n2 (q : QS (a0 :: a1 :: some v :: r) H) : gName 2 v (a0 :: a1 :: a2 :: r) H QS := q
theorem n3 (q : QS (a0 :: a1 :: a2 :: some v :: r) H) : gName 3 v (a0 :: a1 :: a2 :: a3 :: r) H QS := q
theorem n4 (q : QS (a0 :: a1 :: a2 :: a3 :: some v :: r) H) : gName 4 v (a0 :: a1 :: a2 :: a3 :: a4 :: r) H QS := q
theorem n5 (q : QS (a0 :: a1 :: a2 :: a3 :: a4 :: some v :: r) H) : gName 5 v (a0 :: a1 :: a2 :: a3 :: a4 :: a5 :: r) H QS := q
theorem n6 (q : QS (a0 :: a1 :: a2 :: a3 :: a4 :: a5 :: some v :: r) H) : gName 6 v (a0 :: a1 :: a2 :: a3 :: a4 :: a5 :: a6 :: r) H QS := q
theorem n7 (q : QS (a0 :: a1 :: a2 :: a3 :: a4 :: a5 :: a6 :: some v :: r) H) : gName 7 v (a0 :: a1 :: a2 :: a3 :: a4 :: a5 :: a6 :: a7 :: r) H QS := q
theorem n8 (q : QS (a0 :: a1 :: a2 :: a3 :: a4 :: a5 :: a6 :: a7 :: some v :: r) H) : gName 8 v (a0 :: a1 :: a2 :: a3 :: a4 :: a5 :: a6 :: a7 :: a8 :: r) H QS := q
theorem n9 (q : QS (a0 :: a1 :: a2 :: a3 :: a4 :: a5 :: a6 :: a7 :: a8 :: some v :: r) H) : gName 9 v (a0 :: a1 :: a2 :: a3 :: a4 :: a5 :: a6 :: a7 :: a8 :: a9 :: r) H QS := q
theorem n10 (q : QS (a0 :: a1 :: a2 :: a3 :: a4 :: a5 :: a6 :: a7 :: a8 :: a9 :: some v :: r) H) : gName 10 v (a0 :: a1 :: a2 :: a3 :: a4 :: a5 :: a6 :: a7 :: a8 :: a9 :: b0 :: r) H QS := q
theorem n11 (q : QS (a0 :: a1 :: a2 :: a3 :: a4 :: a5 :: a6 :: a7 :: a8 :: a9 :: b0 :: some v :: r) H) : gName 11 v (a0 :: a1 :: a2 :: a3 :: a4 :: a5 :: a6 :: a7 :: a8 :: a9 :: b0 :: b1 :: r) H QS := q
theorem n12 (q : QS (a0 :: a1 :: a2 :: a3 :: a4 :: a5 :: a6 :: a7 :: a8 :: a9 :: b0 :: b1 :: some v :: r) H) : gName 12 v (a0 :: a1 :: a2 :: a3 :: a4 :: a5 :: a6 :: a7 :: a8 :: a9 :: b0 :: b1 :: b2 :: r) H QS := q
theorem n13 (q : QS (a0 :: a1 :: a2 :: a3 :: a4 :: a5 :: a6 :: a7 :: a8 :: a9 :: b0 :: b1 :: b2 :: some v :: r) H) : gName 13 v (a0 :: a1 :: a2 :: a3 :: a4 :: a5 :: a6 :: a7 :: a8 :: a9 :: b0 :: b1 :: b2 :: b3 :: r) H QS := q
theorem n14 (q : QS (a0 :: a1 :: a2 :: a3 :: a4 :: a5 :: a6 :: a7 :: a8 :: a9 :: b0 :: b1 :: b2 :: b3 :: some v :: r) H) : gName 14 v (a0 :: a1 :: a2 :: a3 :: a4 :: a5 :: a6 :: a7 :: a8 :: a9 :: b0 :: b1 :: b2 :: b3 :: b4 :: r) H QS := q
end

/-! isinstance -/
theorem q_int_int {i : Int} {K : PySem.W.Frag} {H : Hp} {Q : VK} (q : Q (.bl true) H) : rIsi K [.int i, .ty "int"] H Q := ⟨_, .ty "int", .type "int", .type "int", true, rfl, .ty "int", .base (.int i), kit_ty (by decide +kernel), q⟩
theorem q_int_bool {i : Int} {K : PySem.W.Frag} {H : Hp} {Q : VK} (q : Q (.bl false) H) : rIsi K [.int i, .ty "bool"] H Q := ⟨_, .ty "bool", .type "int", .type "bool", false, rfl, .ty "bool", .base (.int i), kit_ty (by decide +kernel), q⟩
theorem q_int_str {i : Int} {K : PySem.W.Frag} {H : Hp} {Q : VK} (q : Q (.bl false) H) : rIsi K [.int i, .ty "str"] H Q := ⟨_, .ty "str", .type "int", .type "str", false, rfl, .ty "str", .base (.int i), kit_ty (by decide +kernel), q⟩
theorem q_int_list {i : Int} {K : PySem.W.Frag} {H : Hp} {Q : VK} (q : Q (.bl false) H) : rIsi K [.int i, .ty "list"] H Q := ⟨_, .ty "list", .type "int", .type "list", false, rfl, .ty "list", .base (.int i), kit_ty (by decide +kernel), q⟩
theorem q_int_tuple {i : Int} {K : PySem.W.Frag} {H : Hp} {Q : VK} (q : Q (.bl false) H) : rIsi K [.int i, .ty "tuple"] H Q := ⟨_, .ty "tuple", .type "int", .type "tuple", false, rfl, .ty "tuple", .base (.int i), kit_ty (by decide +kernel), q⟩
theorem q_int_dict {i : Int} {K : PySem.W.Frag} {H : Hp} {Q : VK} (q : Q (.bl false) H) : rIsi K [.int i, .ty "dict"] H Q := ⟨_, .ty "dict", .type "int", .type "dict", false, rfl, .ty "dict", .base (.int i), kit_ty (by decide +kernel), q⟩
theorem q_bool_int {b : Bool} {K : PySem.W.Frag} {H : Hp} {Q : VK} (q : Q (.bl true) H) : rIsi K [.bl b, .ty "int"] H Q := ⟨_, .ty "int", .type "bool", .type "int", true, rfl, .ty "int", .base (.bl b), kit_ty (by decide +kernel), q⟩
theorem q_bool_bool {b : Bool} {K : PySem.W.Frag} {H : Hp} {Q : VK} (q : Q (.bl true) H) : rIsi K [.bl b, .ty "bool"] H Q := ⟨_, .ty "bool", .type "bool", .type "bool", true, rfl, .ty "bool", .base (.bl b), kit_ty (by decide +kernel), q⟩
theorem q_bool_str {b : Bool} {K : PySem.W.Frag} {H : Hp} {Q : VK} (q : Q (.bl false) H) : rIsi K [.bl b, .ty "str"] H Q := ⟨_, .ty "str", .type "bool", .type "str", false, rfl, .ty "str", .base (.bl b), kit_ty (by decide +kernel), q⟩
theorem q_bool_list {b : Bool} {K : PySem.W.Frag} {H : Hp} {Q : VK} (q : Q (.bl false) H) : rIsi K [.bl b, .ty "list"] H Q := ⟨_, .ty "list", .type "bool", .type "list", false, rfl, .ty "list", .base (.bl b), kit_ty (by decide +kernel), q⟩
theorem q_bool_tuple {b : Bool} {K : PySem.W.Frag} {H : Hp} {Q : VK} (q : Q (.bl false) H) : rIsi K [.bl b, .ty "tuple"] H Q := ⟨_, .ty "tuple", .type "bool", .type "tuple", false, rfl, .ty "tuple", .base (.bl b), kit_ty (by decide +kernel), q⟩
theorem q_bool_dict {b : Bool} {K : PySem.W.Frag} {H : Hp} {Q : VK} (q : Q (.bl false) H) : rIsi K [.bl b, .ty "dict"] H Q := ⟨_, .ty "dict", .type "bool", .type "dict", false, rfl, .ty "dict", .base (.bl b), kit_ty (by decide +kernel), q⟩
theorem q_str_int {x : Str} {K : PySem.W.Frag} {H : Hp} {Q : VK} (q : Q (.bl false) H) : rIsi K [.str x, .ty "int"] H Q := ⟨_, .ty "int", .type "str", .type "int", false, rfl, .ty "int", .base (.str x), kit_ty (by decide +kernel), q⟩
theorem q_str_bool {x : Str} {K : PySem.W.Frag} {H : Hp} {Q : VK} (q : Q (.bl false) H) : rIsi K [.str x, .ty "bool"] H Q := ⟨_, .ty "bool", .type "str", .type "bool", false, rfl, .ty "bool", .base (.str x), kit_ty (by decide +kernel), q⟩
theorem q_str_str {x : Str} {K : PySem.W.Frag} {H : Hp} {Q : VK} (q : Q (.bl true) H) : rIsi K [.str x, .ty "str"] H Q := ⟨_, .ty "str", .type "str", .type "str", true, rfl, .ty "str", .base (.str x), kit_ty (by decide +kernel), q⟩
theorem q_str_list {x : Str} {K : PySem.W.Frag} {H : Hp} {Q : VK} (q : Q (.bl false) H) : rIsi K [.str x, .ty "list"] H Q := ⟨_, .ty "list", .type "str", .type "list", false, rfl, .ty "list", .base (.str x), kit_ty (by decide +kernel), q⟩
theorem q_str_tuple {x : Str} {K : PySem.W.Frag} {H : Hp} {Q : VK} (q : Q (.bl false) H) : rIsi K [.str x, .ty "tuple"] H Q := ⟨_, .ty "tuple", .type "str", .type "tuple", false, rfl, .ty "tuple", .base (.str x), kit_ty (by decide +kernel), q⟩
theorem q_str_dict {x : Str} {K : PySem.W.Frag} {H : Hp} {Q : VK} (q : Q (.bl false) H) : rIsi K [.str x, .ty "dict"] H Q := ⟨_, .ty "dict", .type "str", .type "dict", false, rfl, .ty "dict", .base (.str x), kit_ty (by decide +kernel), q⟩
theorem q_NoneType_int  {K : PySem.W.Frag} {H : Hp} {Q : VK} (q : Q (.bl false) H) : rIsi K [.non, .ty "int"] H Q := ⟨_, .ty "int", .type "NoneType", .type "int", false, rfl, .ty "int", .base .non, kit_ty (by decide +kernel), q⟩
theorem q_NoneType_bool  {K : PySem.W.Frag} {H : Hp} {Q : VK} (q : Q (.bl false) H) : rIsi K [.non, .ty "bool"] H Q := ⟨_, .ty "bool", .type "NoneType", .type "bool", false, rfl, .ty "bool", .base .non, kit_ty (by decide +kernel), q⟩
theorem q_NoneType_str  {K : PySem.W.Frag} {H : Hp} {Q : VK} (q : Q (.bl false) H) : rIsi K [.non, .ty "str"] H Q := ⟨_, .ty "str", .type "NoneType", .type "str", false, rfl, .ty "str", .base .non, kit_ty (by decide +kernel), q⟩
theorem q_NoneType_list  {K : PySem.W.Frag} {H : Hp} {Q : VK} (q : Q (.bl false) H) : rIsi K [.non, .ty "list"] H Q := ⟨_, .ty "list", .type "NoneType", .type "list", false, rfl, .ty "list", .base .non, kit_ty (by decide +kernel), q⟩
theorem q_NoneType_tuple  {K : PySem.W.Frag} {H : Hp} {Q : VK} (q : Q (.bl false) H) : rIsi K [.non, .ty "tuple"] H Q := ⟨_, .ty "tuple", .type "NoneType", .type "tuple", false, rfl, .ty "tuple", .base .non, kit_ty (by decide +kernel), q⟩
theorem q_NoneType_dict  {K : PySem.W.Frag} {H : Hp} {Q : VK} (q : Q (.bl false) H) : rIsi K [.non, .ty "dict"] H Q := ⟨_, .ty "dict", .type "NoneType", .type "dict", false, rfl, .ty "dict", .base .non, kit_ty (by decide +kernel), q⟩
theorem q_list_int {p : Addr} {xs : List V} {K : PySem.W.Frag} {H : Hp} {Q : VK} (h : H p = some (.lst xs)) (q : Q (.bl false) H) : rIsi K [.ref p, .ty "int"] H Q := ⟨_, .ty "int", .type "list", .type "int", false, rfl, .ty "int", .base (.lst h), kit_ty (by decide +kernel), q⟩
theorem q_list_bool {p : Addr} {xs : List V} {K : PySem.W.Frag} {H : Hp} {Q : VK} (h : H p = some (.lst xs)) (q : Q (.bl false) H) : rIsi K [.ref p, .ty "bool"] H Q := ⟨_, .ty "bool", .type "list", .type "bool", false, rfl, .ty "bool", .base (.lst h), kit_ty (by decide +kernel), q⟩
theorem q_list_str {p : Addr} {xs : List V} {K : PySem.W.Frag} {H : Hp} {Q : VK} (h : H p = some (.lst xs)) (q : Q (.bl false) H) : rIsi K [.ref p, .ty "str"] H Q := ⟨_, .ty "str", .type "list", .type "str", false, rfl, .ty "str", .base (.lst h), kit_ty (by decide +kernel), q⟩
theorem q_list_list {p : Addr} {xs : List V} {K : PySem.W.Frag} {H : Hp} {Q : VK} (h : H p = some (.lst xs)) (q : Q (.bl true) H) : rIsi K [.ref p, .ty "list"] H Q := ⟨_, .ty "list", .type "list", .type "list", true, rfl, .ty "list", .base (.lst h), kit_ty (by decide +kernel), q⟩
theorem q_list_tuple {p : Addr} {xs : List V} {K : PySem.W.Frag} {H : Hp} {Q : VK} (h : H p = some (.lst xs)) (q : Q (.bl false) H) : rIsi K [.ref p, .ty "tuple"] H Q := ⟨_, .ty "tuple", .type "list", .type "tuple", false, rfl, .ty "tuple", .base (.lst h), kit_ty (by decide +kernel), q⟩
theorem q_list_dict {p : Addr} {xs : List V} {K : PySem.W.Frag} {H : Hp} {Q : VK} (h : H p = some (.lst xs)) (q : Q (.bl false) H) : rIsi K [.ref p, .ty "dict"] H Q := ⟨_, .ty "dict", .type "list", .type "dict", false, rfl, .ty "dict", .base (.lst h), kit_ty (by decide +kernel), q⟩
theorem q_tuple_int {p : Addr} {xs : List V} {K : PySem.W.Frag} {H : Hp} {Q : VK} (h : H p = some (.tup xs)) (q : Q (.bl false) H) : rIsi K [.ref p, .ty "int"] H Q := ⟨_, .ty "int", .type "tuple", .type "int", false, rfl, .ty "int", .base (.tup h), kit_ty (by decide +kernel), q⟩
theorem q_tuple_bool {p : Addr} {xs : List V} {K : PySem.W.Frag} {H : Hp} {Q : VK} (h : H p = some (.tup xs)) (q : Q (.bl false) H) : rIsi K [.ref p, .ty "bool"] H Q := ⟨_, .ty "bool", .type "tuple", .type "bool", false, rfl, .ty "bool", .base (.tup h), kit_ty (by decide +kernel), q⟩
theorem q_tuple_str {p : Addr} {xs : List V} {K : PySem.W.Frag} {H : Hp} {Q : VK} (h : H p = some (.tup xs)) (q : Q (.bl false) H) : rIsi K [.ref p, .ty "str"] H Q := ⟨_, .ty "str", .type "tuple", .type "str", false, rfl, .ty "str", .base (.tup h), kit_ty (by decide +kernel), q⟩
theorem q_tuple_list {p : Addr} {xs : List V} {K : PySem.W.Frag} {H : Hp} {Q : VK} (h : H p = some (.tup xs)) (q : Q (.bl false) H) : rIsi K [.ref p, .ty "list"] H Q := ⟨_, .ty "list", .type "tuple", .type "list", false, rfl, .ty "list", .base (.tup h), kit_ty (by decide +kernel), q⟩
theorem q_tuple_tuple {p : Addr} {xs : List V} {K : PySem.W.Frag} {H : Hp} {Q : VK} (h : H p = some (.tup xs)) (q : Q (.bl true) H) : rIsi K [.ref p, .ty "tuple"] H Q := ⟨_, .ty "tuple", .type "tuple", .type "tuple", true, rfl, .ty "tuple", .base (.tup h), kit_ty (by decide +kernel), q⟩
theorem q_tuple_dict {p : Addr} {xs : List V} {K : PySem.W.Frag} {H : Hp} {Q : VK} (h : H p = some (.tup xs)) (q : Q (.bl false) H) : rIsi K [.ref p, .ty "dict"] H Q := ⟨_, .ty "dict", .type "tuple", .type "dict", false, rfl, .ty "dict", .base (.tup h), kit_ty (by decide +kernel), q⟩
theorem q_dict_int {p : Addr} {xs : List (Key × V)} {K : PySem.W.Frag} {H : Hp} {Q : VK} (h : H p = some (.dK xs)) (q : Q (.bl false) H) : rIsi K [.ref p, .ty "int"] H Q := ⟨_, .ty "int", .type "dict", .type "int", false, rfl, .ty "int", .base (.dK h), kit_ty (by decide +kernel), q⟩
theorem q_dict_bool {p : Addr} {xs : List (Key × V)} {K : PySem.W.Frag} {H : Hp} {Q : VK} (h : H p = some (.dK xs)) (q : Q (.bl false) H) : rIsi K [.ref p, .ty "bool"] H Q := ⟨_, .ty "bool", .type "dict", .type "bool", false, rfl, .ty "bool", .base (.dK h), kit_ty (by decide +kernel), q⟩
theorem q_dict_str {p : Addr} {xs : List (Key × V)} {K : PySem.W.Frag} {H : Hp} {Q : VK} (h : H p = some (.dK xs)) (q : Q (.bl false) H) : rIsi K [.ref p, .ty "str"] H Q := ⟨_, .ty "str", .type "dict", .type "str", false, rfl, .ty "str", .base (.dK h), kit_ty (by decide +kernel), q⟩
theorem q_dict_list {p : Addr} {xs : List (Key × V)} {K : PySem.W.Frag} {H : Hp} {Q : VK} (h : H p = some (.dK xs)) (q : Q (.bl false) H) : rIsi K [.ref p, .ty "list"] H Q := ⟨_, .ty "list", .type "dict", .type "list", false, rfl, .ty "list", .base (.dK h), kit_ty (by decide +kernel), q⟩
theorem q_dict_tuple {p : Addr} {xs : List (Key × V)} {K : PySem.W.Frag} {H : Hp} {Q : VK} (h : H p = some (.dK xs)) (q : Q (.bl false) H) : rIsi K [.ref p, .ty "tuple"] H Q := ⟨_, .ty "tuple", .type "dict", .type "tuple", false, rfl, .ty "tuple", .base (.dK h), kit_ty (by decide +kernel), q⟩
theorem q_dict_dict {p : Addr} {xs : List (Key × V)} {K : PySem.W.Frag} {H : Hp} {Q : VK} (h : H p = some (.dK xs)) (q : Q (.bl true) H) : rIsi K [.ref p, .ty "dict"] H Q := ⟨_, .ty "dict", .type "dict", .type "dict", true, rfl, .ty "dict", .base (.dK h), kit_ty (by decide +kernel), q⟩

/-! ### loops -/
section
variable {K : PySem.W.Frag} {σ : L2.St} {H : Hp} {D : Ends} {g : TG} {tb : TS} {te : TE} {tr : TA} {c : TT}
/-! mono of tests -/
def MonoE (te : TE) : Prop := ∀ σ H (Q Q' : VK), (∀ v H1, Q v H1 → Q' v H1) → te σ H Q → te σ H Q'
def MonoT (t : TT) : Prop := ∀ σ H (Q Q' : Bool → Hp → Prop), (∀ b H1, Q b H1 → Q' b H1) → t σ H Q → t σ H Q'
def MonoR (r : R2) : Prop := ∀ x y H (Q Q' : VK), (∀ v H1, Q v H1 → Q' v H1) → r x y H Q → r x y H Q'
theorem m_var {n : Nat} : MonoE (tVar n) := fun _ _ _ _ f ⟨v, e, q⟩ => ⟨v, e, f _ _ q⟩
theorem m_c {v : V} : MonoE (tC v) := fun _ _ _ _ f q => f _ _ q
theorem m_op {r : R2} {ta tb : TE} (ha : MonoE ta) (hb : MonoE tb) (hr : MonoR r) : MonoE (tOp r ta tb) := fun _ _ _ _ f q => ha _ _ _ _ (fun _ _ q => hb _ _ _ _ (fun _ _ q => hr _ _ _ _ _ f q) q) q
theorem m_I0 {g : Int → Int → V} : MonoR (rI0 g) := fun _ _ _ _ _ f ⟨i, j, e1, e2, q⟩ => ⟨i, j, e1, e2, f _ _ q⟩
theorem m_eq : MonoR rEq := fun _ _ _ _ _ f ⟨h, q⟩ => ⟨h, f _ _ q⟩
theorem m_ne : MonoR rNe := fun _ _ _ _ _ f ⟨h, q⟩ => ⟨h, f _ _ q⟩
theorem m_eqP {K : PySem.W.Frag} : MonoR (rEqP K) := fun _ _ _ _ _ f h => h.elim (fun ⟨h, q⟩ => .inl ⟨h, f _ _ q⟩) fun ⟨d, e, h1, h2, h3, h4, q⟩ => .inr ⟨d, e, h1, h2, h3, h4, f _ _ q⟩
theorem m_neP {K : PySem.W.Frag} : MonoR (rNeP K) := fun _ _ _ _ _ f h => h.elim (fun ⟨h, q⟩ => .inl ⟨h, f _ _ q⟩) fun ⟨d, e, h1, h2, h3, h4, q⟩ => .inr ⟨d, e, h1, h2, h3, h4, f _ _ q⟩
theorem m_gt : MonoR rGtI := m_I0
theorem m_lt : MonoR rLtI := m_I0
theorem m_ge : MonoR rGeI := m_I0
theorem m_le : MonoR rLeI := m_I0
theorem m_test {te : TE} (h : MonoE te) : MonoT (tTest te) := fun _ _ _ _ f q => h _ _ _ _ (fun _ _ ⟨k, e, q⟩ => ⟨k, e, f _ _ q⟩) q
theorem m_or {t u : TT} (h : MonoT t) (h2 : MonoT u) : MonoT (tOr t u) := fun σ H Q Q' f q => h _ _ _ _ (fun b H1 q => by
  cases b with
  | true =>
    rw [if_pos rfl] at q ⊢
    exact f _ _ q
  | false =>
    rw [if_neg Bool.false_ne_true] at q ⊢
    exact h2 _ _ _ _ f q) q
theorem m_and {t u : TT} (h : MonoT t) (h2 : MonoT u) : MonoT (tAnd t u) := fun σ H Q Q' f q => h _ _ _ _ (fun b H1 q => by
  cases b with
  | true =>
    rw [if_pos rfl] at q ⊢
    exact h2 _ _ _ _ f q
  | false =>
    rw [if_neg Bool.false_ne_true] at q ⊢
    exact f _ _ q) q
/-- while: an invariant, a measure; the test's reading must not look at what is wanted -/
theorem r_while (Pv : Nat → L2.St → Hp → Prop) (m : Nat) (mono : MonoT c) (h0 : Pv m σ H)
    (hs : ∀ m σ H, Pv m σ H → c σ H fun b H1 => if b = true then tb { D with nx := fun σ' H' => ∃ m', m' < m ∧ Pv m' σ' H', ct := fun σ' H' => ∃ m', m' < m ∧ Pv m' σ' H', bk := D.nx } σ H1 else D.nx σ H1) : tWhile c tb D σ H := by
  refine ⟨fun m σ H => Pv m σ H, ⟨m, h0⟩, fun m σ H p => ?_⟩
  refine mono σ H _ _ (fun b H1 q => ?_) (hs m σ H p)
  cases b with
  | true => exact ⟨_, fun σ' H' h => h, q⟩
  | false => exact q
end

/-! ### what is walked -/
section
variable {K : PySem.W.Frag} {σ : L2.St} {H : Hp} {te : TE} {tr : TA} {R : It → Hp → Prop}
theorem s_L {p : Addr} {xs : List V} (h : SqL K H p xs) (q : R (Itl K p) H) : ∃ a, V.ref p = .ref a ∧ (∃ xs, SqL K H a xs) ∧ R (Itl K a) H := ⟨p, rfl, ⟨xs, h⟩, q⟩
theorem s_T {p : Addr} {xs : List V} (h : SqT K H p xs) (q : R (Itt K p) H) : ∃ a, V.ref p = .ref a ∧ (∃ xs, SqT K H a xs) ∧ R (Itt K a) H := ⟨p, rfl, ⟨xs, h⟩, q⟩
theorem s_S {z : Str} (q : R (Its z) H) : ∃ x, V.str z = .str x ∧ R (Its x) H := ⟨z, rfl, q⟩
theorem s_R1 {n : Int} (q : R (Itr 0 n.toNat) H) (h : -(2 ^ 62) ≤ n ∧ n < 2 ^ 62) : ∃ j : Int, [V.int n] = [.int j] ∧ -(2 ^ 62) ≤ j ∧ j < 2 ^ 62 ∧ R (Itr 0 j.toNat) H := ⟨n, rfl, h.1, h.2, q⟩
theorem s_R2 {m n : Int} (q : R (Itr m (n - m).toNat) H) (h : -(2 ^ 62) ≤ m ∧ m < 2 ^ 62 ∧ -(2 ^ 62) ≤ n ∧ n < 2 ^ 62) : ∃ i j : Int, [V.int m, .int n] = [.int i, .int j] ∧ (-(2 ^ 62) ≤ i ∧ i < 2 ^ 62 ∧ -(2 ^ 62) ≤ j ∧ j < 2 ^ 62) ∧ R (Itr i (j - i).toNat) H := ⟨m, n, rfl, h, q⟩
theorem s_E {p : Addr} {xs : List V} (h : SqL K H p xs) (q : R (Ite K p) H) : ∃ a xs, [V.ref p] = [.ref a] ∧ SqL K H a xs ∧ R (Ite K a) H := ⟨p, xs, rfl, h, q⟩
theorem s_Z {p r : Addr} {xs ys : List V} (h : SqL K H p xs) (h2 : SqL K H r ys) (q : R (Itz K p r) H) : ∃ a b xs ys, [V.ref p, .ref r] = [.ref a, .ref b] ∧ SqL K H a xs ∧ SqL K H b ys ∧ R (Itz K a b) H := ⟨p, r, xs, ys, rfl, h, h2, q⟩
theorem i_L (q : te σ H fun x H1 => ∃ a, x = .ref a ∧ (∃ xs, SqL K H1 a xs) ∧ R (Itl K a) H1) : iList K te σ H R := q
theorem i_T (q : te σ H fun x H1 => ∃ a, x = .ref a ∧ (∃ xs, SqT K H1 a xs) ∧ R (Itt K a) H1) : iTup K te σ H R := q
theorem i_S (q : te σ H fun v H1 => ∃ x, v = .str x ∧ R (Its x) H1) : iStr te σ H R := q
theorem i_R1 (q : tr σ H fun vs H1 => ∃ j : Int, vs = [.int j] ∧ -(2 ^ 62) ≤ j ∧ j < 2 ^ 62 ∧ R (Itr 0 j.toNat) H1) : iRng1 tr σ H R := q
theorem i_R2 (q : tr σ H fun vs H1 => ∃ i j : Int, vs = [.int i, .int j] ∧ (-(2 ^ 62) ≤ i ∧ i < 2 ^ 62 ∧ -(2 ^ 62) ≤ j ∧ j < 2 ^ 62) ∧ R (Itr i (j - i).toNat) H1) : iRng2 tr σ H R := q
theorem i_E (q : tr σ H fun vs H1 => ∃ a xs, vs = [.ref a] ∧ SqL K H1 a xs ∧ R (Ite K a) H1) : iEnum K tr σ H R := q
theorem i_Z (q : tr σ H fun vs H1 => ∃ a b xs ys, vs = [.ref a, .ref b] ∧ SqL K H1 a xs ∧ SqL K H1 b ys ∧ R (Itz K a b) H1) : iZip K tr σ H R := q
end
section
variable {σ : L2.St} {H : Hp} {Q : VK} {g : TG} {te : TE} {tt : TT} {tb : TS} {wi : TI} {vs : List Nat} {D : Ends} {J : It} {n : Nat} {G : Hp → Prop} {Y : Nat → Hp → V → Hp → Prop}
theorem walk_r0 {n : Nat} : Walk (Itr 0 n) n (fun _ => True) (fun i H x H' => H' = H ∧ x = .int (i : Nat)) := walk_range.mono (fun _ h => h) fun i H x H' _ _ y => ⟨y.1, y.2.trans (congrArg V.int (Int.zero_add _))⟩
/-- what a for asks of the iterator -/
def ForQ (σ : L2.St) (g : TG) (tb : TS) (D : Ends) : It → Hp → Prop := fun J H1 => ∃ W : Nat → Nat → L2.St → Hp → Prop, (∃ m, W 0 m σ H1) ∧ ∀ i m σ H, W i m σ H →
      (J.stop i H ∧ D.nx σ H) ∨ (J.go i H ∧ ∃ N : L2.St → Hp → Prop, (∀ σ' H', N σ' H' → ∃ m', m' < m ∧ W (i + 1) m' σ' H') ∧ ∀ x H', J.yld i H x H' → g x σ H' fun σ2 H2 => tb { D with nx := N, ct := N, bk := D.nx } σ2 H2)
theorem r_for (q : wi σ H (ForQ σ g tb D)) : tFor wi g tb D σ H := q
theorem forW (w : Walk J n G Y) (Pv : Nat → L2.St → Hp → Prop) (h0 : Pv 0 σ H) (hG : ∀ i σ H, i ≤ n → Pv i σ H → G H)
    (hs : ∀ i x σ H H', i < n → Pv i σ H → Y i H x H' → g x σ H' fun σ2 H2 => tb { D with nx := Pv (i + 1), ct := Pv (i + 1), bk := D.nx } σ2 H2) (hd : ∀ σ H, Pv n σ H → D.nx σ H) : ForQ σ g tb D J H := for_it w Pv h0 hG hs hd
/-- what a comprehension asks -/
def LcQ (σ : L2.St) (g : TG) (tt : TT) (te : TE) (vs : List Nat) (Q : VK) : It → Hp → Prop := fun J H1 => ∀ D, H1 D = none → ∃ W : Nat → Nat → Hp → Prop, (∃ m, W 0 m (upd H1 D (.lst []))) ∧ ∀ i m H, W i m H →
  (J.stop i H ∧ Q (.ref D) H) ∨ (J.go i H ∧ ∃ Nx : Hp → Prop, (∀ H', Nx H' → ∃ m', m' < m ∧ W (i + 1) m' H') ∧ ∀ x H', J.yld i H x H' → g x (wipe σ vs) H' fun σ2 H2 => wipe σ2 vs = wipe σ vs ∧ tt σ2 H2 fun b H3 =>
    if b = true then te σ2 H3 fun y H4 => ∃ acc, H4 D = some (.lst acc) ∧ acc.length < sizeLine ∧ Nx (upd H4 D (.lst (acc ++ [y]))) else Nx H3)
theorem r_lc (q : wi σ H (LcQ σ g tt te vs Q)) : tLc wi g tt te vs σ H Q := q
/-- between the turns: the new list at Dl holds acc, R of it; the heap ahead stands -/
def LcI (H : Hp) (Dl : Addr) (R : Nat → List V → Hp → Prop) (i : Nat) (H' : Hp) : Prop := ∃ acc : List V, acc.length ≤ i ∧ Same H H' ∧ H' Dl = some (.lst acc) ∧ R i acc H'
/-- .. behind the element -/
def LcP (H : Hp) (Dl : Addr) (R : Nat → List V → Hp → Prop) (i : Nat) (y : V) (H4 : Hp) : Prop := ∃ acc, H4 Dl = some (.lst acc) ∧ acc.length < sizeLine ∧ LcI H Dl R i (upd H4 Dl (.lst (acc ++ [y])))
theorem lcW (w : Walk J n G Y) (R : Nat → List V → Hp → Prop) (hw : wipe σ vs = σ) (hG : ∀ H', Same H H' → G H') (h0 : ∀ H', Same H H' → R 0 [] H')
    (hs : ∀ i x acc Dl H' H'', i < n → H Dl = none → Same H H' → H' Dl = some (.lst acc) → acc.length ≤ i → R i acc H' → Y i H' x H'' → g x σ H'' fun σ2 H2 => wipe σ2 vs = σ ∧ tt σ2 H2 fun b H3 =>
      if b = true then te σ2 H3 (LcP H Dl R (i + 1)) else LcI H Dl R (i + 1) H3)
    (hd : ∀ acc Dl H', H Dl = none → Same H H' → H' Dl = some (.lst acc) → R n acc H' → Q (.ref Dl) H') : LcQ σ g tt te vs Q J H := by
  intro Dl hD
  rw [hw]
  refine Eq.mp (by rw [hw]) (lc_it (σ := σ) (vs := vs) (g := g) (tt := tt) (te := te) (H1 := H) (D := Dl) (Qd := fun H' => Q (.ref Dl) H') w (LcI H Dl R) ⟨[], Nat.le_refl _, Same.new hD, upd_same, h0 _ (Same.new hD)⟩ (fun i H' _ ⟨_, _, e, _⟩ => hG H' e) (fun i x H' H'' hi ⟨acc, hl, e, ed, r⟩ y => ?_) fun H' ⟨acc, _, e, ed, r⟩ => hd acc Dl H' hD e ed r)
  rw [hw]
  exact hs i x acc Dl H' H'' hi hD e ed hl r y
theorem lc_put {Dl : Addr} {R : Nat → List V → Hp → Prop} {i : Nat} {y : V} {acc : List V} {H4 : Hp} (hi : i < 16777216) (hD : H Dl = none) (e : Same H H4) (h : H4 Dl = some (.lst acc)) (hl : acc.length ≤ i)
    (r : ∀ H5, But Dl H4 H5 → Same H H5 → R (i + 1) (acc ++ [y]) H5) : LcP H Dl R (i + 1) y H4 :=
  ⟨acc, h, szlt (by omega), acc ++ [y], by rw [List.length_append]; exact Nat.succ_le_succ hl, Same.but But.upd hD e, upd_same, r _ But.upd (Same.but But.upd hD e)⟩
theorem lc_skip {Dl : Addr} {R : Nat → List V → Hp → Prop} {i : Nat} {acc : List V} {H4 : Hp} (e : Same H H4) (h : H4 Dl = some (.lst acc)) (hl : acc.length ≤ i) (r : R (i + 1) acc H4) : LcI H Dl R (i + 1) H4 := ⟨acc, by omega, e, h, r⟩
theorem r_yes {QB : Bool → Hp → Prop} (q : QB true H) : tYes σ H QB := q
theorem r_wipe {σ' : L2.St} {B : Prop} (h : wipe σ' vs = σ) (q : B) : wipe σ' vs = σ ∧ B := ⟨h, q⟩
end
end Z

/-! Ze: own exception classes: made, raised, caught, kept, asked. -/
namespace Z
open PySem PySem.Spec PyProof.Rows L2

/-! ### a field of an f-string: None too -/
def rFmtN : V → Hp → VK → Prop := fun x H1 Q => (∃ y : Str, x = .str y ∧ y.length ≤ sizeLine ∧ Q (.str y) H1) ∨ (∃ i : Int, x = .int i ∧ i.natAbs.log2 < 1920 ∧ Q (.str (toString i)) H1) ∨ (x = .non ∧ Q (.str "None") H1)
def tFmtN (te : TE) : TE := fun σ H Q => te σ H fun x H1 => rFmtN x H1 Q
theorem pe_fmtN {X : Cx} {e : Expr} {te : TE} {pos : Pos} (he : PE X e te) : PE X (.FormattedValue e (-1) none pos) (tFmtN te) := by
  refine ⟨fun pins s σ H Q I h => ?_⟩
  refine wpAny_FormattedValue_plain (thn (he.run pins s σ H _ I h) fun v s1 hv => ?_)
  obtain ⟨x, H1, I1, r1, q⟩ := hv
  rcases q with ⟨y, rfl, hz, q⟩ | ⟨i, rfl, hz, q⟩ | ⟨rfl, q⟩
  · obtain ⟨t, rfl⟩ := r1
    exact wpAny_formatField_str ⟨.str y, H1, I1, ⟨t, rfl⟩, q⟩ ⟨.str y, H1, I1.tok _, ⟨_, rfl⟩, q⟩ hz
  · obtain ⟨t, rfl⟩ := r1
    exact wpAny_formatField_int hz ⟨.str (toString i), H1, I1.tok _, ⟨_, rfl⟩, q⟩
  · obtain rfl : v = Value.none := r1
    exact wpAny_formatField_none ⟨.str "None", H1, I1.tok _, ⟨_, rfl⟩, q⟩

/-! ### str(n) -/
theorem r_strN {n : Nat} {H : Hp} {Q : VK} (q : Q (.str (SX.S (TL.numL n))) H) (h : n < 10 ^ 60) : cStr [.int (n : Int)] H Q := by
  refine Z.r_strI ?_ ?_
  · rw [SX.num_S]
    exact q
  · by_cases h0 : n = 0
    · rw [h0]
      decide
    · have h2 : (10 : Nat) ^ 60 < 2 ^ 1920 := by decide +kernel
      exact (Nat.log2_lt (by omega)).mpr (by rw [Int.natAbs_natCast]; exact Nat.lt_trans h h2)
/-! ### a text so many times -/
def rMulS : R2 := fun x y H Q => ∃ (z : Str) (n : Int), x = .str z ∧ y = .int n ∧ PySem.MulOk z n ∧ Q (.str (Txt.mul z n)) H
theorem op_mulS {X : Cx} : OpR X (binaryOp .Mult) rMulS := by
  intro pins s σ H x y v u Q I rx ry h
  obtain ⟨z, n, rfl, rfl, hc, q⟩ := h
  obtain ⟨t, rfl⟩ := (show ∃ t, v = Value.str z t from rx)
  obtain ⟨t2, rfl⟩ := (show ∃ t, u = Value.int n t from ry)
  exact PySem.SB.mul hc fun t' k => ⟨.str (Txt.mul z n), H, I.tok k, ⟨t', rfl⟩, q⟩
theorem r_mulS {z : Str} {n : Int} {H : Hp} {Q : VK} (q : Q (.str (Txt.mul z n)) H) (h : PySem.MulOk z n) : rMulS (.str z) (.int n) H Q := ⟨z, n, rfl, rfl, h, q⟩
/-! ### D.__init__(self, ..), D an own class over ValueError without own __init__ -/
structure DearC (K : PySem.W.Frag) (D : Addr) : Prop where
  rd : PySem.W.readsIn K D (.type "type") = true
  ga : PySem.W.specialIn K (.ref D) "__getattribute__" = some (some (.builtin "type.__getattribute__"))
  at_ : PySem.W.findCls K (.ref D) (.type "type") "__init__" = some (.val (.builtin "ValueError.__init__"))
theorem pe_dearI {X : Cx} {x : Str} {D : Addr} {e : Expr} {es : List Expr} {ta : TA} {p1 p2 pos : Pos} {pl : Sem Bool} (hg : Gl X x) (hm : X.mg x = some (.ref D)) (C : DearC X.K D) (ha : PA X (e :: es) ta)
    (hdb : (x == ("__debug__" : Str)) = false := by decide)
    (hc : eval (.Call (.Attribute (.Name x p1) "__init__" p2) (e :: es) [] pos) X.env = (do
      let ov ← eval (.Name x p1) X.env
      standAt p2.atName
      let (f, first) ← holding [ov] (getMethod ov "__init__" pl)
      callWith pos f first (backTo pos (starEach (e :: es) X.env)) (backToKw pos (keywordEach [] X.env))) := by rfl)
    (he : starEach (e :: es) X.env = (false, eval e X.env) :: starEach es X.env := by rfl) (hpl : (backTo pos (starEach es X.env)).any (·.1) = false := by rfl) :
    PE X (.Call (.Attribute (.Name x p1) "__init__" p2) (e :: es) [] pos) (tVeI X.K ta) := by
  refine ⟨fun pins s σ H Q I h => ?_⟩
  refine PySem.W.methodCall_KW (ld_glob I hg hm ?_ hdb) hc
  refine PySem.W.method_cls I.kIn C.ga (PySem.W.cls_value I.kIn C.rd C.at_ rfl ?_)
  show wpAny _ _ (callWith pos (Value.builtin "ValueError.__init__") [] (backTo pos (starEach (e :: es) X.env)) []) _ _ _
  refine PyProof.Rows.callWith_method1 (thn (ha.run pos pins _ σ H _ (I.tok _) h) fun us s1 ⟨vs, H1, I1, r1, a, C, ws, ev, hl, T, ea, q⟩ => ?_) he hpl
  subst ev
  cases r1 with
  | @cons _ u0 _ ur ra rw' =>
    obtain rfl : u0 = Value.ref a := ra
    have hlen : ur.length ≤ sizeLine := by
      rw [← Paired.length rw', sizeLine_eq]
      omega
    exact oinit_ok T I1 ea hlen fun s' J => ⟨.non, H1, J, rfl, q⟩

/-! ### an exception that is kept behind the suite -/
/-- at a: an exception of the class cls, its dict d -/
def ExH (cls : Value) (d : Option Addr) (a : Addr) : HO := .ext fun h => ∃ (oe : Obj) (vs : Array Value), h.get? a = some oe ∧ Zc cls d oe ∧ oe.data = .fields vs
theorem exH_ok {P : Program} {w : World} {H : Hp} {h : Heap} {a : Addr} {cls : Value} {d : Option Addr} {oe : Obj} {vs : Array Value} (e : h.get? a = some oe) (z : Zc cls d oe) (k : oe.data = .fields vs) : ObjOk P w H h a (ExH cls d a) :=
  ⟨⟨oe, vs, e, z, k⟩, ⟨oe, e⟩, fun _ _ ⟨o, v, q, r⟩ k => ⟨o, v, k o q, r⟩⟩
section
variable {X : Cx} {pins : List (Addr × Obj)} {σ : L2.St} {H : Hp} {s : Shared}
theorem trackX {a : Addr} {o : HO} (I : Inv X pins σ H s) (n0 : X.s_0.heap.get? a = none) (hn : H a = none) (nL : a ≠ X.env.locals) (nC : ∀ x c, X.env.cells.lookup x = some c → c ≠ a) (nP : ∀ p ∈ X.pn ++ pins, p.1 ≠ a) (new : ObjOk X.prog X.w (upd H a o) s.heap a o) : Inv X pins σ (upd H a o) s := by
  have ne0 : ∀ b u, X.s_0.heap.get? b = some u → b ≠ a := fun b u e z => by
    rw [z, n0] at e
    cases e
  refine ⟨I.ok, I.os, I.bare, ⟨I.base.keep, I.base.slot, fun b u e n hx => ?_, I.base.there, fun b xs e => ?_, fun b u v e => ?_, fun b ps e => ?_⟩, I.loc, I.cell, ?_, fun x c e => ?_, fun p hp => ?_, ?_, I.len⟩
  · rw [upd_ne (ne0 b u e)]
    exact I.base.free b u e n hx
  · have q := I.base.tups b xs e
    rw [upd_ne (ne_of_none q hn)]
    exact q
  · have q := I.base.frzs b u v e
    rw [upd_ne (ne_of_none q hn)]
    exact q
  · obtain ⟨m, q⟩ := I.base.tbls b ps e
    exact ⟨m, by rw [upd_ne (ne_of_none q hn)]; exact q⟩
  · rw [upd_ne (Ne.symm nL)]
    exact I.free
  · rw [upd_ne (nC x c e)]
    exact I.freeC x c e
  · obtain ⟨e, n, nl, nf, d⟩ := I.pin p hp
    exact ⟨e, by rw [upd_ne (nP p hp)]; exact n, nl, nf, d⟩
  · exact L2.HOk.laidN I.hok (fun _ _ q => q) hn new
end
/-- what the clause 'except x as n' wishes of an exception of the body, kept -/
def wKeep (K : PySem.W.Frag) (c : Value) (i : Nat) (ts : Addr → Value → Option Addr → TS) (Wout : WX) (D : Ends) : WX := fun cls d σ H =>
  ∃ b, PySem.W.exmOne K cls c = some b ∧ (b = true → ∀ a, H a = none → ts a cls d { nx := fun σ' H' => D.nx (σ'.set i none) (upd H' a (ExH cls d a)), rt := fun v H' => D.rt v (upd H' a (ExH cls d a)), bk := fun σ' H' => D.bk (σ'.set i none) (upd H' a (ExH cls d a)), ct := fun σ' H' => D.ct (σ'.set i none) (upd H' a (ExH cls d a)) } (σ.set i (some (.ref a))) H) ∧
    (b = false → Wout cls d σ H)

section
variable {X : Cx} {x n : Str} {c : Value} {i : Nat} {body suite : List Stmt} {b₀ : Stmt} {np pos pos' : Pos} {tb : WX → TS} {ts : Addr → Value → Option Addr → TS} {Wout : WX}
theorem ps_keep (hs : X.stack = X.env :: X.outer) (hf : X.env.frame = some X.env.locals) (hex : X.ex = []) (hN : X.N.Nodup) (hi : X.N[i]? = some n) (hln : X.env.kindOf n = some .local) (hc : Names X x c) (tk : Takes X Wout)
    (hb : ∀ (W : WX) (pn : List (Addr × Obj)) (xe : Value → Shared → Prop), Takes (X.tr pn xe) W → PassesOwn (model X.prog X.w) X.A X.env xe → PSs (X.tr pn xe) body (tb W))
    (hsu : ∀ (a : Addr) (oe : Obj) (cls : Value) (d : Option Addr) (pn : List (Addr × Obj)), Zc cls d oe → (∃ vs, oe.data = .fields vs) → PSs (X.suite a ((a, oe) :: pn)) (b₀ :: suite) (ts a cls d)) :
    PS X (.Try body [.ExceptHandler (some (.Name x np)) (some n) (b₀ :: suite) pos'] [] [] pos) (fun D σ H => tb (wKeep X.K c i ts Wout D) D σ H) := by
  refine ⟨fun pins s σ H D I h => ?_⟩
  have ok := I.ok
  have hfr : X.A.frames = some (X.env :: X.outer) := by rw [ok.frames, hs]
  have hloc : Loc X.env.scope n := .inl hln
  refine wpAny_Try_except ?_
  refine wpAny_mono ((hb (wKeep X.K c i ts Wout D) (X.pn ++ pins) (fun e s₁ => wpAny (model X.prog X.w) X.A (noteFrame e X.env) (fun _ s₂ => wpAny (model X.prog X.w) X.A (setFlight e none) (fun _ s₃ =>
    wpAny (model X.prog X.w) X.A (handleBy e X.env [.ExceptHandler (some (.Name x np)) (some n) (b₀ :: suite) pos']) (SP X pins D) X.xe s₃) X.xe s₂) X.xe s₁) (fun u s' xx => ?_) PassesOwn.looking).run [] s σ H D (I.toTry _) h) (fun f s1 hsp => ?_) (fun e s1 he => he)
  · -- the catch
    obtain ⟨a, B, sI, pins', σ', H', cls, d, rfl, J', nb, up, sky, na, os, ag, b, hb1, hyes, hno⟩ := xx
    have J : Inv X pins σ' H' sI := J'.ofTry ok
    have sky' : Sky B (X.env :: X.outer) a (Zc cls d) X.env.locals s'.heap := by rw [← hs]; exact sky
    show wpAny (model X.prog X.w) X.A (noteFrame (.ref a) X.env) _ _ _
    refine Sky.land Zc.steady hfr hf sky' fun h3 fl3 up3 => ?_
    have J3 : Inv X pins σ' H' { s' with heap := h3 } := J.landed nb fl3.1 (up.trans up3) os ag
    obtain ⟨oe3, vs3, he3, hz3, hd3⟩ := fl3.there
    have notFr : ∀ {h : Heap} {o : Obj} {vs : Array Value}, h.FunFrames B (X.env :: X.outer) → h.get? a = some o → o.data = .fields vs → a ∉ frs (X.env :: X.outer) := fun {h o vs} ff e dd hm => by
      obtain ⟨_, o', e', hnf⟩ := ff.mem hm
      rw [e] at e'; cases e'
      exact hnf _ dd
    have nfr := notFr fl3.2.2.1 he3 hd3
    have nL : a ≠ X.env.locals := fun z => nfr (List.mem_filterMap.mpr ⟨X.env, List.mem_cons_self, by rw [hf, z]⟩)
    have nF : a ∉ X.fs := fun hm => by
      obtain ⟨e, he, q⟩ := List.mem_filterMap.mp hm
      exact nfr (List.mem_filterMap.mpr ⟨e, List.mem_cons_of_mem _ he, q⟩)
    -- new
    have nB : B.get? a = none := fl3.2.1
    have nI : sI.heap.get? a = none := by
      cases e : sI.heap.get? a with
      | none => rfl
      | some o =>
        have q := nb a o e (by rw [hs]; exact nfr)
        rw [nB] at q
        cases q
    have n0 : X.s_0.heap.get? a = none := by
      cases e : X.s_0.heap.get? a with
      | none => rfl
      | some o =>
        obtain ⟨o', q⟩ := J.base.there a o e (by rw [hex]; exact fun z => nomatch z)
        rw [nI] at q
        cases q
    have nC : ∀ x c, X.env.cells.lookup x = some c → c ≠ a := fun x c e z => by
      obtain ⟨v, o, ho, _⟩ := J.cell x c e
      rw [z, nI] at ho
      cases ho
    have nP : ∀ p ∈ X.pn ++ pins, p.1 ≠ a := fun p hp z => by
      have q := (J.pin p hp).1
      rw [z, nI] at q
      cases q
    have S3 := J3.suite he3 hd3 na nL nF
    refine wpAny_handleBy_cons (codeAny_handlers_test ?_) (by intro q; cases q)
    have LT : PySem.W.Looks (model X.prog X.w) h3 (typeOf (.ref a)) cls := fun A Q E s k q => wpAny_typeOf_ref (k _ _ he3) (by rw [hz3.1]; exact q)
    have LM := PySem.W.exm_one (M := model X.prog X.w) (J3.kIn) LT hb1
    have test : ∀ {Q : Value → Shared → Prop} {E : Value → Shared → Prop}, Q c { s' with heap := h3 } → wpAny (model X.prog X.w) (X.A.mark (some (.ref a))) (eval (.Name x np) X.env) Q E { s' with heap := h3 } := fun {Q E} q => by
      obtain ⟨hg, hdbg, hm | ⟨hm, hv, hnn⟩⟩ := hc
      · exact ld_glob (X := X.suite a ((a, oe3) :: (X.pn ++ pins))) S3 hg hm q hdbg
      · exact ld_blt (X := X.suite a ((a, oe3) :: (X.pn ++ pins))) S3 hg hm hv q hnn hdbg
    refine test (LM.here ?_)
    cases b with
    | true =>
      refine codeAny_handlers_suite_as ?_
      refine HandSPX.lands_againZ fl3 fun h4 fl4 up4 => ?_
      have J4 : Inv X pins σ' H' { s' with heap := h4 } := J.landed nb fl4.1 ((up.trans up3).trans up4) os ag
      obtain ⟨oe4, vs4, he4, hz4, hd4⟩ := fl4.there
      have S4 := J4.suite he4 hd4 na nL nF
      refine store_ok (X := X.suite a ((a, oe4) :: (X.pn ++ pins))) (v := .ref a) S4 hN hi hloc rfl (fun s5 S5 => ?_) (.inr hln)
      refine wpAny_mono ((hsu a oe4 cls d (X.pn ++ pins) hz4 ⟨_, hd4⟩).run [] s5 _ H' _ S5 (hyes rfl a na)) (fun f s6 hsp => ?_) (fun _ _ z => False.elim z)
      have end_ : ∀ {σ6 : L2.St} {H6 : Hp} {Q : Shared → Prop}, Inv (X.suite a ((a, oe4) :: (X.pn ++ pins))) [] σ6 H6 s6 → (∀ s7, Inv X pins (σ6.set i none) (upd H6 a (ExH cls d a)) s7 → Q s7) →
          wpAny (model X.prog X.w) X.A (do bindName X.env n .none; unbindBehindTheSuite X.env n pos') (fun _ s7 => Q s7) X.xe s6 := fun {σ6 H6 Q} S6 hq => gone_ok (X := X.suite a ((a, oe4) :: (X.pn ++ pins))) S6 hN hi hln fun s7 S7 => by
        obtain ⟨e7, n7, _⟩ := S7.pin (a, oe4) (List.mem_append_left _ List.mem_cons_self)
        exact hq s7 (trackX (S7.unsuite ok) n0 n7 nL nC nP (exH_ok e7 hz4 hd4))
      cases f with
      | next =>
        obtain ⟨σ6, H6, S6, q6⟩ := hsp
        exact end_ S6 fun s7 J7 => ⟨_, _, J7, q6⟩
      | brk =>
        obtain ⟨σ6, H6, S6, q6⟩ := hsp
        exact end_ S6 fun s7 J7 => ⟨_, _, J7, q6⟩
      | cont =>
        obtain ⟨σ6, H6, S6, q6⟩ := hsp
        exact end_ S6 fun s7 J7 => ⟨_, _, J7, q6⟩
      | ret u =>
        obtain ⟨v6, σ6, H6, S6, r6, q6⟩ := hsp
        exact end_ S6 fun s7 J7 => ⟨_, _, _, J7, r6, q6⟩
    | false =>
      show wpAny _ X.A (handleBy (.ref a) X.env []) _ _ _
      refine wpAny_handleBy_nil ?_
      obtain ⟨k1, k2, k3, oe, vs, T, oT, ts', he, hz, hd, h1, hr⟩ := id fl3
      unfold PySem.passOn
      refine wpAny_bind (wpAny_field he hd h1 ?_)
      rw [if_neg (show ¬ ((Value.ref T == Value.none) = true) from by simp)]
      have fin : wpAny (model X.prog X.w) X.A (setFlight (.ref a) X.env.frame) (fun _ s4 => wpAny (model X.prog X.w) X.A (throw (.ref a) : Sem Flow) (SP X pins D) X.xe s4) X.xe { s' with heap := h3 } := by
        rw [hf]
        refine HandSPX.setFlight_upZ fl3 fun h4 hh4 up4 => wpAny_throw (tk _ _ ?_)
        exact ⟨a, B, sI, pins, σ', H', cls, d, rfl, J, nb, (up.trans up3).trans up4, .inr (.inr (by rw [hs]; exact hh4)), na, os, ag, hno rfl⟩
      first
        | exact wpAny_bind (wpAny_pure (wpAny_bind fin))
        | exact wpAny_bind fin
  · cases f with
    | next =>
      obtain ⟨σ', H', J', q⟩ := hsp
      exact wpAny_execs_nil ⟨σ', H', J'.ofTry ok, q⟩
    | brk =>
      obtain ⟨σ', H', J', q⟩ := hsp
      exact ⟨σ', H', J'.ofTry ok, q⟩
    | cont =>
      obtain ⟨σ', H', J', q⟩ := hsp
      exact ⟨σ', H', J'.ofTry ok, q⟩
    | ret u =>
      obtain ⟨v, σ', H', J', r, q⟩ := hsp
      exact ⟨v, σ', H', J'.ofTry ok, r, q⟩
end

theorem r_caught {K : PySem.W.Frag} {c : Value} {i : Nat} {ts : Addr → Value → Option Addr → TS} {Wout : WX} {D : Ends} {cls : Value} {d : Option Addr} {σ : L2.St} {H : Hp} (e : PySem.W.exmOne K cls c = some true)
    (h : ∀ a, H a = none → ts a cls d { nx := fun σ' H' => D.nx (σ'.set i none) (upd H' a (ExH cls d a)), rt := fun v H' => D.rt v (upd H' a (ExH cls d a)), bk := fun σ' H' => D.bk (σ'.set i none) (upd H' a (ExH cls d a)), ct := fun σ' H' => D.ct (σ'.set i none) (upd H' a (ExH cls d a)) } (σ.set i (some (.ref a))) H) :
    wKeep K c i ts Wout D cls d σ H := ⟨true, e, fun _ => h, fun z => nomatch z⟩
/-! ### isinstance and fields of such a one -/
section
open PySem.W
variable {prog : Program} {w : World} {A : Around} {E : Value → Shared → Prop} {s : Shared} {K : Frag} {x D : Addr} {ox : Obj} {od : Option Obj}
theorem findObj_dataA {C : Addr} {name : Str} {a g : Value} (hc : (clsIn K C).isSome = true) (ha : findIn K (.ref C) name = some (some a)) (hg : specialIn K a "__get__" = some (some g)) (ht : takesIn K a = some true) : findObj K C od name = some (.bind g a) := by
  obtain ⟨cd, hc⟩ := Option.isSome_iff_exists.mp hc
  unfold findObj
  rw [hc, Option.bind_some, ha, Option.bind_some]
  simp [hg, ht]
theorem kin_classA {Q : Option Value → Shared → Prop} (C : ExcC K D)
    (X : K.In s.heap) (I : InstAt s.heap x ox D od) (h : Q (some (.ref D)) { s with toks := s.toks + 1 }) : wpAny (model prog w) A (getAttr? (.ref x) "__class__") Q E s := by
  have hf : findObj K D od "__class__" = some (.bind (.builtin "getset_descriptor.__get__") (.builtin "object.__class__")) := findObj_dataA (by obtain ⟨cd, hc, _⟩ := any_some C.hd; rw [hc]; rfl) C.ha C.hn C.ht
  obtain ⟨hp, g, d, t, os⟩ := s
  have L0 := I.type (M := model prog w)
  have L1 := looks_findIn (M := model prog w) X C.hg
  have L2 := looks_findIn (M := model prog w) X C.hk
  have L3 := looks_find (M := model prog w) X I hf
  have sub : Looks (model prog w) hp (isInstance (.ref x) (.type "BaseException")) true := L0.andThen (looks_subIn X C.hs)
  have hx0 : (false && onTheHeap (Value.builtin "BaseException.__getattribute__")) = false := rfl
  have hx2 : (Value.builtin "BaseException.__getattribute__" == Value.builtin "object.__getattribute__") = false := by decide +kernel
  have hx1 : (onTheHeap (Value.ref D) && Value.builtin "BaseException.__getattribute__" == Value.builtin "object.__getattribute__") = false := by rw [hx2]; rfl
  unfold getAttr? getAttrBy? getAttrBy
  refine wpAny_bind (wpAny_mkText (wpAny_bind (wpAny_attempt (wpAny_holding (wpAny_bind (L0.at (wpAny_bind (L1.at ?_))))))))
  show wpAny _ _ (if (onTheHeap (Value.ref D) && Value.builtin "BaseException.__getattribute__" == Value.builtin "object.__getattribute__") = true then _ else _) _ _ _
  rw [hx1, if_neg Bool.false_ne_true]
  unfold getAttrByItsOwn hookBefore
  refine wpAny_bind ?_
  rw [if_pos (show onTheHeap (Value.ref D) = true from rfl)]
  refine L2.at ?_
  refine wpAny_bind (wpAny_attempt (wpAny_holding ?_))
  unfold callGetattribute
  rw [hx0, if_neg Bool.false_ne_true]
  unfold boundAndCalled
  rw [PySem.F.excAttr_ValueError.ga.bind (.ref x)]
  refine wpAny_bind (wpAny_pure ?_)
  show wpAny _ _ (call (.builtin "BaseException.__getattribute__") [.ref x, .str "__class__" t]) _ _ _
  refine wpAny_call (codeAny_call_builtin PySem.F.excAttr_ValueError.ga.plain PySem.F.entry_bexc_ga ?_)
  refine @check_slot (model prog w) _ _ ⟨hp, g, d, t + 1, os⟩ "BaseException.__getattribute__" "BaseException" "__getattribute__" (.ref x) [.str "__class__" t] [] _ (by decide +kernel) (by decide +kernel) sub (PySem.F.args_bexc_ga (.ref x) (.str "__class__" t)) ?_
  unfold Builtin.«object.__getattribute__»
  refine wpAny_bind (wpAny_of_eq (a := ((Value.ref x : Value), [Value.str "__class__" t])) (by first | rfl | (simp only [slotArgs]; rfl)) ?_)
  refine wpAny_bind (wpAny_pure (wpAny_bind (L0.at (wpAny_bind (L3.at ?_)))))
  show wpAny _ _ (holding [Value.builtin "object.__class__"] (call (.builtin "getset_descriptor.__get__") [.builtin "object.__class__", .ref x, .ref D]) >>= ret) _ _ _
  refine wpAny_bind (wpAny_holding (wpAny_call (class_get (s := ⟨hp, g, d, t + 1, os⟩) (ox := ox) (od := od) X I C.hm ?_)))
  refine wpAny_pure ?_
  show wpAny _ _ (handedOut (.ref D)) _ _ _
  rw [handedOut_of (v := .ref D) rfl]
  first
    | exact wpAny_pure (wpAny_pure h)
    | exact wpAny_pure h
    | exact wpAny_pure (wpAny_bind (wpAny_pure (wpAny_pure h)))
theorem kitx_excA (C : ExcC K D) : KitX K (.ref x) (.ref D) (fun h => InstAt h x ox D od) where
  ty := fun _ _ _ I => I.type
  it := fun _ _ X _ => by
    obtain ⟨cdD, hcD, _⟩ := any_some C.hd
    unfold clsIn at hcD
    split at hcD
    · rename_i c' d' cd' sl' ho
      intro A' Q' E' s' k q
      unfold isType loadHead
      exact wpAny_bind (wpAny_loadPart (k _ _ (X _ _ ho)) (wpAny_pure q))
    · cases hcD
  ne := fun h tp dd its n sl X htp => by
    obtain ⟨cdD, hcD, _⟩ := any_some C.hd
    refine Bool.eq_false_iff.mpr fun q => ?_
    have e : D = tp := Value.ref.inj (beq_iff_eq.mp q)
    subst e
    unfold clsIn at hcD
    split at hcD
    · rename_i c' d' cd' sl' ho
      have z := (X _ _ ho).symm.trans htp
      cases z
    · cases hcD
  ca := fun X I k => kin_classA C X I k
end
/-- its dict is there -/
def DictV (H : Hp) (d : Option Addr) : Prop := d = none ∨ ∃ dd fs, d = some dd ∧ H dd = some (.xd fs)
theorem exH_at {X : Cx} {pins : List (Addr × Obj)} {σ : L2.St} {H : Hp} {s : Shared} {a C : Addr} {d : Option Addr} (I : Inv X pins σ H s) (h : H a = some (ExH (.ref C) d a)) (hd : DictV H d) : ∃ ox od, PySem.W.InstAt s.heap a ox C od := by
  have q : ObjOk X.prog X.w H s.heap a (.ext fun h => ∃ (oe : Obj) (vs : Array Value), h.get? a = some oe ∧ Zc (.ref C) d oe ∧ oe.data = .fields vs) := I.hok a _ h
  obtain ⟨oe, vs, ha, hz, hv⟩ := q.1
  rcases hd with rfl | ⟨dd, fs, rfl, hx⟩
  · obtain ⟨oc, od, oda, osl⟩ := oe
    obtain ⟨h1, h2⟩ := hz
    dsimp only at h1 h2 hv
    subst h1 h2 hv
    exact ⟨_, none, ha, rfl, rfl, trivial⟩
  · have hy : ObjOk X.prog X.w H s.heap dd (.xd fs) := I.hok dd _ hx
    obtain ⟨mA, hns, hr⟩ := hy
    obtain ⟨o, es, ep, ho, _⟩ := hns
    exact ⟨oe, some o, ha, hz.1, by unfold PySem.W.notCls; rw [hv] <;> rfl, by rw [hz.2]; exact ho⟩
def rIsX (K : PySem.W.Frag) : List V → Hp → VK → Prop := fun xs H Q => ∃ (a C : Addr) (d : Option Addr) (c : V) (u : Value) (b : Bool), xs = [.ref a, c] ∧ H a = some (ExH (.ref C) d a) ∧ DictV H d ∧ ExcC K C ∧ ClsV c u ∧ PySem.W.kitOne K (.ref C) u = some b ∧ Q (.bl b) H
def rIsXT (K : PySem.W.Frag) : List V → Hp → VK → Prop := fun xs H Q => ∃ (a C : Addr) (d : Option Addr) (tp : Addr) (cs : List V) (us : List Value) (b : Bool), xs = [.ref a, .ref tp] ∧ H a = some (ExH (.ref C) d a) ∧ DictV H d ∧ ExcC K C ∧ H tp = some (.tup cs) ∧ Paired ClsV cs us ∧ PySem.W.kitAny K (.ref C) us = some b ∧ Q (.bl b) H
def rIsiX (K : PySem.W.Frag) : List V → Hp → VK → Prop := fun xs H Q => rIsi K xs H Q ∨ rIsX K xs H Q
def rIsiXT (K : PySem.W.Frag) : List V → Hp → VK → Prop := fun xs H Q => rIsiT K xs H Q ∨ rIsXT K xs H Q
section
variable {X : Cx}
theorem call_isX : CallR X (.builtin "isinstance") (rIsX X.K) := by
  intro pins s σ H xs us Q I r h
  obtain ⟨a, C, d, c, u, b, rfl, ha, hd, hC, k, e, q⟩ := h
  obtain ⟨u1, u2, rfl, r1, r2⟩ := vals2 r
  have e2 := k.eq r2
  subst e2
  obtain rfl : u1 = Value.ref a := r1
  obtain ⟨ox, od, J⟩ := exH_at I ha hd
  exact PySem.W.kia_one (kitx_excA hC) I.kIn J e (fun z => nomatch z) fun tk => ⟨.bl b, H, I.tok tk, rfl, q⟩
theorem call_isXT : CallR X (.builtin "isinstance") (rIsXT X.K) := by
  intro pins s σ H xs us Q I r h
  obtain ⟨a, C, d, tp, cs, ws, b, rfl, ha, hd, hC, hT, k, e, q⟩ := h
  obtain ⟨u1, u2, rfl, r1, r2⟩ := vals2 r
  cases (show u2 = Value.ref tp from r2)
  obtain rfl : u1 = Value.ref a := r1
  obtain ⟨ox, od, J⟩ := exH_at I ha hd
  obtain ⟨_, its, rv, o, h1, h2, n, h3⟩ := (show ObjOk X.prog X.w H s.heap tp (.tup cs) from I.hok tp _ hT)
  have e3 := ClsV.all k rv
  subst e3
  obtain ⟨oc, od', dt, sl⟩ := o
  simp only at h2 h3
  subst h2 h3
  exact PySem.W.kia_tup (kitx_excA hC) I.kIn J h1 e (fun z => nomatch z) fun tk => ⟨.bl b, H, I.tok tk, rfl, q⟩
theorem call_isiX : CallR X (.builtin "isinstance") (rIsiX X.K) := fun pins s σ H xs us Q I r h => h.elim (fun h => call_isi pins s σ H xs us Q I r h) fun h => call_isX pins s σ H xs us Q I r h
theorem call_isiXT : CallR X (.builtin "isinstance") (rIsiXT X.K) := fun pins s σ H xs us Q I r h => h.elim (fun h => call_isiT pins s σ H xs us Q I r h) fun h => call_isXT pins s σ H xs us Q I r h
theorem k_isiX (K : PySem.W.Frag) (hK : X.K = K := by rfl) : CallR X (.builtin "isinstance") (rIsiX K) := hK ▸ call_isiX
theorem k_isiXT (K : PySem.W.Frag) (hK : X.K = K := by rfl) : CallR X (.builtin "isinstance") (rIsiXT K) := hK ▸ call_isiXT
/-- e.n, e such an exception -/
def tXv (K : PySem.W.Frag) (n : Str) (te : TE) : TE := fun σ H Q => te σ H fun x H1 => ∃ (a C dd : Addr) (fs : List (Str × V)) (v : V), x = .ref a ∧ H1 a = some (ExH (.ref C) (some dd) a) ∧ H1 dd = some (.xd fs) ∧ fs.lookup n = some v ∧ XfC K C ∧ PySem.W.findIn K (.ref C) n = some none ∧ Q v H1
theorem pe_xv (K : PySem.W.Frag) {e : Expr} {te : TE} {pos : Pos} {n : Str} (he : PE X e te) (hK : X.K = K := by rfl) (hb : attributeBase e n X.env (eval e X.env) = eval e X.env := by rfl) : PE X (.Attribute e n pos) (tXv K n te) := by
  subst hK
  refine ⟨fun pins s σ H Q I h => ?_⟩
  refine attr_of hb (thn (he.run pins s σ H _ I h) fun u s1 hh => ?_)
  obtain ⟨x, H1, I1, rx, a, C, dd, fs, v, ex, ha, hx, l, T, hno, q⟩ := hh
  subst ex
  obtain rfl : u = Value.ref a := rx
  have z : ObjOk X.prog X.w H1 s1.heap a (.ext fun h => ∃ (oe : Obj) (vs : Array Value), h.get? a = some oe ∧ Zc (.ref C) (some dd) oe ∧ oe.data = .fields vs) := I1.hok a _ ha
  obtain ⟨oe, vs, ho, hz, hv⟩ := z.1
  have hy : ObjOk X.prog X.w H1 s1.heap dd (.xd fs) := I1.hok dd _ hx
  obtain ⟨mA, hns, hr⟩ := hy
  obtain ⟨od, hod, hl⟩ := lookIn_ns hns
  obtain ⟨u, hu, ru⟩ := RelO.some_of (v := v) (o := mA n) (by rw [← l]; exact hr n)
  have J : PySem.W.InstAt s1.heap a oe C (some od) := ⟨ho, hz.1, by unfold PySem.W.notCls; rw [hv] <;> rfl, by rw [hz.2]; exact hod⟩
  exact HandSPX.exc_get I1.kIn J T.ga T.gg T.exC (PySem.W.findObj_own T.hdC hno rfl (by rw [hl, hu])) (handed_of ru) ⟨v, H1, I1.tok _, ru, q⟩
end

/-! ### calls of defs that may raise -/
def tCE (sp : Sp) (dvs : List V) (W : WX) (t : TA) : TE := fun σ H Q => t σ H fun vs H1 => sp (vs ++ dvs) H1 Q (WE W σ)
section
variable {X : Cx} {k j : Nat} {x : Str} {sp : Sp} {dvs : List V} {p pos : Pos} {e : Expr} {es : List Expr} {t : TA} {W : WX}
theorem pe_ce (c : Cf X.prog X.w X.K X.mg X.base (L2.CX X.prog X.w) k x sp dvs) (hr : Room j X.A) (hk : k ≤ j) (hg : Gl X x) (tk : Takes X W) (ha : PA X (e :: es) t)
    (hdb : (x == ("__debug__" : Str)) = false := by decide) (he : starEach (e :: es) X.env = (false, eval e X.env) :: starEach es X.env := by rfl) (hpl : (backTo pos (starEach es X.env)).any (·.1) = false := by rfl) :
    PE X (.Call (.Name x p) (e :: es) [] pos) (tCE sp dvs W t) := by
  obtain ⟨f, fd, ps, ds, F, hm, kp, b, d⟩ := c.ex
  exact pe_callSD F (hr.mono hk) hg hm kp b d (fun σ => passAt tk σ) ha hdb he hpl
end
/-! ### a method of a class as it stands behind the top -/
structure AtM (K : PySem.W.Frag) (p : Str × Option Str) (n q : Str) (st : Stmt) : Prop where
  ex : ∃ fd : FuncData, FunD K n q (defArgs st) (defBody st) (defScope st) [] [] (He.fAd K p) fd
/-- an own class with own __init__(self, f): message and field -/
structure OexM (K : PySem.W.Frag) (mg : Str → Option Value) (x f : Str) : Prop where
  gl : mg x = some (.ref (He.ga K x))
  oe : OexC K (He.ga K x)
  fi : PySem.W.findIn K (.ref (He.ga K x)) "__init__" = some (some (.ref (He.fAd K (x, some "__init__"))))
  ft : PySem.W.typeIn K (.ref (He.fAd K (x, some "__init__"))) = some (.type "function")
  no : PySem.W.findIn K (.ref (He.ga K x)) f = some none
  xf : XfC K (He.ga K x)
/-- .. without: X('..') -/
structure OexN (K : PySem.W.Frag) (mg : Str → Option Value) (x : Str) : Prop where
  gl : mg x = some (.ref (He.ga K x))
  ei : PySem.W.excIn K (He.ga K x) [.type "ValueError", .type "Exception", .type "BaseException", .type "object"] "ValueError.__new__" = true
  kp : PySem.W.keepIn K (.ref (He.ga K x)) = true
  bs : PySem.W.subIn K (.ref (He.ga K x)) (.type "BaseException") = some true
  ty : PySem.W.typeIn K (.ref (He.ga K x)) = some (.type "type")
def FmtV (x : V) : Prop := x = .non ∨ (∃ y : Str, x = .str y ∧ y.length ≤ 1000) ∨ ∃ i : Int, x = .int i ∧ 0 ≤ i ∧ i < 10 ^ 300
theorem fmt_int {i : Int} (h : 0 ≤ i) (h2 : i < 10 ^ 300) : FmtV (.int i) := .inr (.inr ⟨i, rfl, h, h2⟩)
theorem fmt_nat {i : Nat} (h2 : i < 10 ^ 300) : FmtV (.int i) := fmt_int (by omega) (by exact_mod_cast h2)
def clsB : Stmt → List Stmt
  | .ClassDef (body := b) .. => b
  | _ => []
def sp_xi (K : PySem.W.Frag) (x f : Str) : Sp := fun vs H Q _ => ∃ (a : Addr) (y : V), vs = [.ref a, y] ∧ H a = some (exo a (He.ga K x) none) ∧ FmtV y ∧ ∀ d, H d = none → d ≠ a → Q .non (upd (upd H d (exd d [(f, y)])) a (exo a (He.ga K x) (some d)))

/-! ### facts by names -/
abbrev veB : List Value := [.type "ValueError", .type "Exception", .type "BaseException", .type "object"]
open He in
def excCB (K : PySem.W.Frag) (D : Addr) : Bool := eqO (PySem.W.findIn K (.ref D) "__getattribute__") (some (some (.builtin "BaseException.__getattribute__"))) && (eqO (PySem.W.findIn K (.ref D) "__getattr__") (some none) && (decide (PySem.W.subIn K (.ref D) (.type "BaseException") = some true) &&
  (PySem.W.hasDictIn K D && (eqO (PySem.W.findIn K (.ref D) "__class__") (some (some (.builtin "object.__class__"))) && (eqO (PySem.W.specialIn K (.builtin "object.__class__") "__get__") (some (some (.builtin "getset_descriptor.__get__"))) &&
  (decide (PySem.W.takesIn K (.builtin "object.__class__") = some true) && decide (PySem.W.mroIn K D (.type "object") = some true)))))))
theorem excCB_ok {K : PySem.W.Frag} {D : Addr} (h : excCB K D = true) : ExcC K D := by
  obtain ⟨h1, h⟩ := He.ba h
  obtain ⟨h2, h⟩ := He.ba h
  obtain ⟨h3, h⟩ := He.ba h
  obtain ⟨h4, h⟩ := He.ba h
  obtain ⟨h5, h⟩ := He.ba h
  obtain ⟨h6, h⟩ := He.ba h
  obtain ⟨h7, h8⟩ := He.ba h
  exact ⟨He.eqO_ok h1, He.eqO_ok h2, of_decide_eq_true h3, h4, He.eqO_ok h5, He.eqO_ok h6, of_decide_eq_true h7, of_decide_eq_true h8⟩
def oexB (K : PySem.W.Frag) (C : Addr) : Bool := match K.lookup C with
  | some ⟨.type "type", _, .cls cd, sl⟩ => (match cd.mro, sl.toList with
    | .ref C' :: bm, [_, _, _, _, some (.builtin n), _] => C' == C && n == "ValueError.__new__" && !cd.hasDel && cd.hasDict && PySem.HandSPX.refsVE bm
    | _, _ => false)
  | _ => false
theorem oexB_ok {K : PySem.W.Frag} {C : Addr} (q : oexB K C = true) : ∃ nm q N bs bm sn sub ab col dd k0 k1 k2 k3 k5, K.lookup C = some (excClassObj nm q C N bs bm true sn sub ab col dd k0 k1 k2 k3 k5 "ValueError.__new__") ∧ PySem.HandSPX.refsVE bm = true := by
  unfold oexB at q
  split at q
  · rename_i dd cd sl ho
    split at q
    · rename_i C' bm k0 k1 k2 k3 n k5 hm hs
      simp only [Bool.and_eq_true, beq_iff_eq, Bool.not_eq_true'] at q
      obtain ⟨⟨⟨⟨rfl, rfl⟩, hdel⟩, hdict⟩, hve⟩ := q
      obtain ⟨nm, bs, mro, ns, qn, hd, sn, sub, ab, col, del⟩ := cd
      dsimp only at hm hdel hdict
      subst hm hdel hdict
      have hsl : sl = #[k0, k1, k2, k3, some (.builtin "ValueError.__new__"), k5] := by
        obtain ⟨l⟩ := sl
        simp only at hs
        rw [hs]
      subst hsl
      exact ⟨nm, qn, ns, bs, bm, sn, sub, ab, col, dd, k0, k1, k2, k3, k5, ho, hve⟩
    · cases q
  · cases q
open He in
def msgB (K : PySem.W.Frag) (x : Str) : Bool := PySem.W.excIn K (ga K x) veB "ValueError.__new__" && (PySem.W.keepIn K (.ref (ga K x)) && (decide (PySem.W.subIn K (.ref (ga K x)) (.type "BaseException") = some true) && decide (PySem.W.typeIn K (.ref (ga K x)) = some (.type "type"))))
open He in
def iniB (K : PySem.W.Frag) (x f : Str) : Bool := oexB K (ga K x) && (eqO (PySem.W.findIn K (.ref (ga K x)) "__setattr__") (some (some (.builtin "object.__setattr__"))) && (decide (PySem.W.subIn K (.ref (ga K x)) (.type "BaseException") = some true) && (decide (PySem.W.typeIn K (.ref (ga K x)) = some (.type "type")) &&
  (PySem.W.keepIn K (.ref (ga K x)) && (eqO (PySem.W.findIn K (.ref (ga K x)) "__init__") (some (some (.ref (fAd K (x, some "__init__"))))) && (decide (PySem.W.typeIn K (.ref (fAd K (x, some "__init__"))) = some (.type "function")) && (eqO (PySem.W.findIn K (.ref (ga K x)) f) (some none) && xfB K (ga K x))))))))
theorem msgB_ok {K : PySem.W.Frag} {mg : Str → Option Value} {x : Str} (g : mg x = some (.ref (He.ga K x))) (h : msgB K x = true) : OexN K mg x := by
  obtain ⟨h1, h⟩ := He.ba h
  obtain ⟨h2, h⟩ := He.ba h
  obtain ⟨h3, h4⟩ := He.ba h
  exact ⟨g, h1, h2, of_decide_eq_true h3, of_decide_eq_true h4⟩
theorem iniB_ok {K : PySem.W.Frag} {mg : Str → Option Value} {x f : Str} (g : mg x = some (.ref (He.ga K x))) (h : iniB K x f = true) : OexM K mg x f := by
  obtain ⟨h1, h⟩ := He.ba h
  obtain ⟨h2, h⟩ := He.ba h
  obtain ⟨h3, h⟩ := He.ba h
  obtain ⟨h4, h⟩ := He.ba h
  obtain ⟨h5, h⟩ := He.ba h
  obtain ⟨h6, h⟩ := He.ba h
  obtain ⟨h7, h⟩ := He.ba h
  obtain ⟨h8, h9⟩ := He.ba h
  exact ⟨g, ⟨oexB_ok h1, He.eqO_ok h2, of_decide_eq_true h3, of_decide_eq_true h4, h5⟩, He.eqO_ok h6, of_decide_eq_true h7, He.eqO_ok h8, xfB_ok h9⟩
open He in
def deaB (K : PySem.W.Frag) (D : Addr) : Bool := PySem.W.readsIn K D (.type "type") && (eqO (PySem.W.specialIn K (.ref D) "__getattribute__") (some (some (.builtin "type.__getattribute__"))) && (match PySem.W.findCls K (.ref D) (.type "type") "__init__" with
  | some (.val (.builtin n)) => decide (n = "ValueError.__init__")
  | _ => false))
theorem deaB_ok {K : PySem.W.Frag} {D : Addr} (h : deaB K D = true) : DearC K D := by
  obtain ⟨h1, h⟩ := He.ba h
  obtain ⟨h2, h⟩ := He.ba h
  refine ⟨h1, He.eqO_ok h2, ?_⟩
  split at h
  · rename_i n e
    rw [e, of_decide_eq_true h]
  · cases h
/-- what is told of the classes cs (with init ms: their fields; without ns), D the base of all -/
structure Exs (K : PySem.W.Frag) (mg : Str → Option Value) (D : Str) (cs : List Str) (ms : List (Str × Str)) (ns : List Str) : Prop where
  g : ∀ x ∈ cs, mg x = some (.ref (He.ga K x))
  c : ∀ x ∈ cs, ExcC K (He.ga K x)
  k : ∀ x ∈ cs, ∀ y ∈ cs, PySem.W.kitOne K (.ref (He.ga K x)) (.ref (He.ga K y)) = some (decide (x = y) || decide (y = D))
  m : ∀ x ∈ cs, ∀ y ∈ cs, PySem.W.exmOne K (.ref (He.ga K x)) (.ref (He.ga K y)) = some (decide (x = y) || decide (y = D))
  v : ∀ x ∈ cs, PySem.W.kitOne K (.ref (He.ga K x)) (.type "ValueError") = some true
  n : ∀ y ∈ cs, PySem.W.kitOne K (.type "NoneType") (.ref (He.ga K y)) = some false
  i : ∀ q ∈ ms, OexM K mg q.1 q.2
  s : ∀ x ∈ ns, OexN K mg x
  d : DearC K (He.ga K D)
open He in
def exsB (D : Str) (cs : List Str) (ms : List (Str × Str)) (ns : List Str) (K : PySem.W.Frag) : Bool :=
  (cs.all fun x => eqO (PySem.W.nsIn K mainGlobals x) (some (some (.ref (ga K x))))) && ((cs.all fun x => excCB K (ga K x)) && ((cs.all fun x => cs.all fun y => decide (PySem.W.kitOne K (.ref (ga K x)) (.ref (ga K y)) = some (decide (x = y) || decide (y = D)))) &&
  ((cs.all fun x => cs.all fun y => decide (PySem.W.exmOne K (.ref (ga K x)) (.ref (ga K y)) = some (decide (x = y) || decide (y = D)))) && ((cs.all fun x => decide (PySem.W.kitOne K (.ref (ga K x)) (.type "ValueError") = some true)) &&
  ((cs.all fun x => decide (PySem.W.kitOne K (.type "NoneType") (.ref (ga K x)) = some false)) && ((ms.all fun q => decide (q.1 ∈ cs) && iniB K q.1 q.2) && ((ns.all fun x => decide (x ∈ cs) && msgB K x) && deaB K (ga K D))))))))
theorem exsB_ok {D : Str} {cs : List Str} {ms : List (Str × Str)} {ns : List Str} {K : PySem.W.Frag} {mg : Str → Option Value} {h : Heap} (X : K.In h) (G : h.Ns mainGlobals mg) (c : exsB D cs ms ns K = true) : Exs K mg D cs ms ns := by
  obtain ⟨h1, c⟩ := He.ba c
  obtain ⟨h2, c⟩ := He.ba c
  obtain ⟨h3, c⟩ := He.ba c
  obtain ⟨h4, c⟩ := He.ba c
  obtain ⟨h5, c⟩ := He.ba c
  obtain ⟨h6, c⟩ := He.ba c
  obtain ⟨h7, c⟩ := He.ba c
  obtain ⟨h8, h9⟩ := He.ba c
  have g : ∀ x ∈ cs, mg x = some (.ref (He.ga K x)) := fun x hx => PySem.W.mg_of X G (He.eqO_ok (List.all_eq_true.mp h1 x hx))
  exact ⟨g, fun x hx => excCB_ok (List.all_eq_true.mp h2 x hx), fun x hx y hy => of_decide_eq_true (List.all_eq_true.mp (List.all_eq_true.mp h3 x hx) y hy), fun x hx y hy => of_decide_eq_true (List.all_eq_true.mp (List.all_eq_true.mp h4 x hx) y hy),
    fun x hx => of_decide_eq_true (List.all_eq_true.mp h5 x hx), fun x hx => of_decide_eq_true (List.all_eq_true.mp h6 x hx),
    fun q hq => by
      obtain ⟨a, b⟩ := He.ba (List.all_eq_true.mp h7 q hq)
      exact iniB_ok (g _ (of_decide_eq_true a)) b,
    fun x hx => by
      obtain ⟨a, b⟩ := He.ba (List.all_eq_true.mp h8 x hx)
      exact msgB_ok (g _ (of_decide_eq_true a)) b, deaB_ok h9⟩
/-! the hook: by one more Bool -/
section
open He
abbrev AlE : Type := AlD × Bool
structure SaysE (fa : List Fa) (fn : List DefD) (ex : PySem.W.Frag → Bool) (K : PySem.W.Frag) : Prop where
  d : SaysD fa fn K
  more : ex K = true
def asE (g : Addr → Option Obj) : Nat → List Addr
  | 0 => [mainGlobals, cStatics]
  | n + 1 => growD g (asE g n)
def obsE (n : Nat) (fa : List Fa) (fn : List DefD) (ex : PySem.W.Frag → Bool) (g : Addr → Option Obj) : AlE := (obsD fa fn (frG g (asE g n)), ex (frG g (asE g n)))
def valE (fn : List DefD) : AlE := (valD fn, true)
def hookE (n : Nat) (fa : List Fa) (fn : List DefD) (ex : PySem.W.Frag → Bool) : PySem.W.Hook where
  α := AlE
  obs := fun s => obsE n fa fn ex s.heap.get?
  val := fun _ => valE fn
  says := fun _ h => ∃ K : PySem.W.Frag, K.In h ∧ SaysE fa fn ex K
  of := fun _ _ e => ⟨_, frG_in, ⟨congrArg (fun z : AlE => z.1) e, congrArg (fun z : AlE => z.2) e⟩⟩
  keeps := fun _ _ _ ⟨K, hK, c⟩ k => ⟨K, PySem.W.Frag.In.keeps hK k, c⟩
theorem obsE_eq {n : Nat} {fa : List Fa} {fn : List DefD} {ex : PySem.W.Frag → Bool} {g : Addr → Option Obj} {s : Shared} (h : ∀ a, g a = s.heap.get? a) : obsE n fa fn ex g = (hookE n fa fn ex).obs s := by
  have e : g = s.heap.get? := funext h
  rw [e] <;> rfl
end
/-! ### own __init__s, raises -/
structure Oi (P : Program) (w : World) (K : PySem.W.Frag) (mg : Str → Option Value) (base : Heap) (x f : Str) : Prop where
  ex : ∃ fd : FuncData, FnOk P w K mg base CX0 1 (He.fAd K (x, some "__init__")) fd [("self" : Str), f] (sp_xi K x f) ∧ Binds K fd [("self" : Str), f] []
theorem AtM.oi {P : Program} {w : World} {K : PySem.W.Frag} {mg : Str → Option Value} {base : Heap} {x f q : Str} {st : Stmt} {N : List Str} (F : AtM K (x, some "__init__") "__init__" q st) (S : FnScope N [("self" : Str), f] (defScope st))
    (b : ∀ (kV doc pm : Value) (an : Option Addr) (cdv ct : Value) (us : List Value), us.length = 2 → bindArgs (PySem.W.fnOf "__init__" q (defArgs st) (defBody st) (defScope st) .none kV doc pm an cdv ct) ⟨us, []⟩ = pure ([("self" : Str), f].zip us))
    (hbody : ∀ (cdv : Value) (A : Around) (outer : List Env) (s : Shared) (H : Hp) (vs : List V) (Q : VK) (E : XK), Room 0 (A.deeper (envOfC q (defScope st) s.heap.objs.size (He.fAd K (x, some "__init__")) cdv)) → sp_xi K x f vs H Q E →
      ∃ t, PSs (cxOf CX0 P w K mg base N q (defScope st) (He.fAd K (x, some "__init__")) cdv A outer s H E).nox (defBody st) t ∧ t { nx := fun _ H' => Q .non H', rt := Q } (start N vs) H) : Oi P w K mg base x f := by
  obtain ⟨fd, F⟩ := F.ex
  refine ⟨fd, F.ok S (fun vs H Q E h => ?_) fun cdv A outer s H vs Q E hr h => ?_, ?_⟩
  · obtain ⟨a, y, rfl, _⟩ := h
    rfl
  · obtain ⟨t, h1, h2⟩ := hbody cdv A outer s H vs Q E hr h
    exact ⟨t, h1.nox, h2⟩
  · obtain ⟨oc, od, dV, kV, doc, pm, an, cdv, ct, osl, rfl, _, _, hD, _⟩ := F.ex
    rcases hD with ⟨_, rfl⟩ | ⟨n, _⟩
    · exact .all (b kV doc pm an cdv ct)
    · exact absurd rfl n
def tRaiO (K : PySem.W.Frag) (x f : Str) (W : WX) (ta : TA) : TS := fun _ σ H => tMkO (He.ga K x) (sp_xi K x f) [] ta σ H fun cls d H' => W cls d σ H'
def tRaiN (K : PySem.W.Frag) (x : Str) (W : WX) (ta : TA) : TS := fun _ σ H => ta σ H fun vs H1 => vs.length ≤ sizeLine ∧ W (.ref (He.ga K x)) none σ H1
section
variable {X : Cx} {W : WX} {x f : Str} {j : Nat} {e : Expr} {es : List Expr} {ta : TA} {p pos pos' : Pos}
theorem ps_raiO (K : PySem.W.Frag) (hc : X.calm = true) (tk : Takes X W) (M : OexM K X.mg x f) (F : Oi X.prog X.w K X.mg X.base x f) (hr : Room j X.A) (hj : 2 ≤ j) (hg : Gl X x) (ha : PA X (e :: es) ta) (hK : X.K = K := by rfl)
    (hdb : (x == ("__debug__" : Str)) = false := by decide) (he : starEach (e :: es) X.env = (false, eval e X.env) :: starEach es X.env := by rfl) (hpl : (backTo pos (starEach es X.env)).any (·.1) = false := by rfl) :
    PS X (.Raise (some (.Call (.Name x p) (e :: es) [] pos)) none pos') (tRaiO K x f W ta) := by
  subst hK
  obtain ⟨fd, F1, hb⟩ := F.ex
  exact ps_raise hc tk (pmk_oex M.oe M.fi M.ft F1 (hr.mono hj) hb .nil pass0 hg M.gl ha hdb he hpl)
theorem ps_raiN (K : PySem.W.Frag) (hc : X.calm = true) (tk : Takes X W) (M : OexN K X.mg x) (hg : Gl X x) (ha : PA X (e :: es) ta) (hK : X.K = K := by rfl)
    (hdb : (x == ("__debug__" : Str)) = false := by decide) (he : starEach (e :: es) X.env = (false, eval e X.env) :: starEach es X.env := by rfl) (hpl : (backTo pos (starEach es X.env)).any (·.1) = false := by rfl) :
    PS X (.Raise (some (.Call (.Name x p) (e :: es) [] pos)) none pos') (tRaiN K x W ta) := by
  subst hK
  exact ps_raise hc tk (pmk_ownA PySem.F.excBase_ValueError M.ei M.gl M.kp (raises_own M.bs M.ty) hg ha hdb he hpl)
end
section
variable {K : PySem.W.Frag} {x f : Str} {W : WX} {ta : TA} {D : Ends} {σ : L2.St} {H : Hp}
theorem r_raiN (q : ta σ H fun vs H1 => vs.length ≤ sizeLine ∧ W (.ref (He.ga K x)) none σ H1) : tRaiN K x W ta D σ H := q
theorem r_raiO (q : ta σ H fun vs H1 => vs.length ≤ 1000 ∧ ∀ a, H1 a = none → sp_xi K x f (.ref a :: (vs ++ [])) (upd H1 a (exo a (He.ga K x) none))
  (fun v H2 => v = .non ∧ ∃ (d : Addr) (fs : List (Str × V)), H2 a = some (exo a (He.ga K x) (some d)) ∧ H2 d = some (exd d fs) ∧ H1 d = none ∧ W (.ref (He.ga K x)) (some d) σ (upd (L2.del H2 a) d (.xd fs))) (fun _ _ _ => False)) : tRaiO K x f W ta D σ H := q
theorem r_raiW {y : V} (hf : FmtV y) (q : ∀ d, H d = none → W (.ref (He.ga K x)) (some d) σ (upd H d (.xd [(f, y)]))) :
    [y].length ≤ 1000 ∧ ∀ a, H a = none → sp_xi K x f (.ref a :: ([y] ++ [])) (upd H a (exo a (He.ga K x) none))
      (fun v H2 => v = .non ∧ ∃ (d : Addr) (fs : List (Str × V)), H2 a = some (exo a (He.ga K x) (some d)) ∧ H2 d = some (exd d fs) ∧ H d = none ∧ W (.ref (He.ga K x)) (some d) σ (upd (L2.del H2 a) d (.xd fs))) (fun _ _ _ => False) := by
  refine ⟨by simp, fun a ha => ⟨a, y, rfl, upd_same, hf, fun d hd hda => ⟨rfl, d, [(f, y)], upd_same, ?_, ?_, ?_⟩⟩⟩
  · rw [upd_ne hda, upd_same]
  · rw [upd_ne hda] at hd
    exact hd
  · rw [upd_ne hda] at hd
    have e : upd (L2.del (upd (upd (upd H a (exo a (He.ga K x) none)) d (exd d [(f, y)])) a (exo a (He.ga K x) (some d))) a) d (.xd [(f, y)]) = upd H d (.xd [(f, y)]) := by
      funext b
      by_cases hb : b = d
      · rw [hb, upd_same, upd_same]
      · rw [upd_ne hb, upd_ne hb]
        by_cases h2 : b = a
        · rw [h2, del_same, ha]
        · rw [del_ne h2, upd_ne h2, upd_ne hb, upd_ne h2]
    rw [e]
    exact q d hd
theorem r_raiE {R : XK} {y : V} (hf : FmtV y) (q : ∀ d, H d = none → R (.ref (He.ga K x)) (some d) (upd H d (.xd [(f, y)]))) :
    [y].length ≤ 1000 ∧ ∀ a, H a = none → sp_xi K x f (.ref a :: ([y] ++ [])) (upd H a (exo a (He.ga K x) none))
      (fun v H2 => v = .non ∧ ∃ (d : Addr) (fs : List (Str × V)), H2 a = some (exo a (He.ga K x) (some d)) ∧ H2 d = some (exd d fs) ∧ H d = none ∧ R (.ref (He.ga K x)) (some d) (upd (L2.del H2 a) d (.xd fs))) (fun _ _ _ => False) := by
  refine ⟨by simp, fun a ha => ⟨a, y, rfl, upd_same, hf, fun d hd hda => ⟨rfl, d, [(f, y)], upd_same, ?_, ?_, ?_⟩⟩⟩
  · rw [upd_ne hda, upd_same]
  · rw [upd_ne hda] at hd
    exact hd
  · rw [upd_ne hda] at hd
    have e : upd (L2.del (upd (upd (upd H a (exo a (He.ga K x) none)) d (exd d [(f, y)])) a (exo a (He.ga K x) (some d))) a) d (.xd [(f, y)]) = upd H d (.xd [(f, y)]) := by
      funext b
      by_cases hb : b = d
      · rw [hb, upd_same, upd_same]
      · rw [upd_ne hb, upd_ne hb]
        by_cases h2 : b = a
        · rw [h2, del_same, ha]
        · rw [del_ne h2, upd_ne h2, upd_ne hb, upd_ne h2]
    rw [e]
    exact q d hd
theorem r_ce {sp : Sp} {dvs : List V} {Q : VK} {t : TA} (q : t σ H fun vs H1 => sp (vs ++ dvs) H1 Q (WE W σ)) : tCE sp dvs W t σ H Q := q
theorem r_veI {Q : VK} (q : ta σ H fun vs H1 => ∃ (a C : Addr) (ws : List V), vs = .ref a :: ws ∧ ws.length ≤ 1000 ∧ OexC K C ∧ H1 a = some (exo a C none) ∧ Q .non H1) : tVeI K ta σ H Q := q
theorem r_ost {to te : TE} (q : te σ H fun y H1 => to σ H1 fun x H2 => ∃ a C : Addr, x = .ref a ∧ OexC K C ∧ PySem.W.findIn K (.ref C) f = some none ∧
  ((H2 a = some (exo a C none) ∧ ∀ dx, H2 dx = none → dx ≠ a → D.nx σ (upd (upd H2 dx (exd dx [(f, y)])) a (exo a C (some dx)))) ∨
    ∃ (dx : Addr) (fs : List (Str × V)), H2 a = some (exo a C (some dx)) ∧ H2 dx = some (exd dx fs) ∧ fs.length ≤ 900 ∧ D.nx σ (upd H2 dx (exd dx ((f, y) :: fs))))) : tOst K f to te D σ H := q
theorem r_fmtN {te : TE} {Q : VK} (q : te σ H fun x H1 => rFmtN x H1 Q) : tFmtN te σ H Q := q
theorem r_fmtNV {y : V} {Q : VK} (hf : FmtV y) (q : ∀ z : Str, z.length ≤ 1000 → Q (.str z) H) : rFmtN y H Q := by
  rcases hf with rfl | ⟨z, rfl, hz⟩ | ⟨i, rfl, h0, h1⟩
  · exact .inr (.inr ⟨rfl, q _ (by decide)⟩)
  · exact .inl ⟨z, rfl, Nat.le_trans hz (by decide), q _ hz⟩
  · refine .inr (.inl ⟨i, rfl, ?_, q _ ?_⟩)
    · have h2 : i.natAbs < 10 ^ 300 := by omega
      by_cases hz : i.natAbs = 0
      · rw [hz]
        decide
      · exact (Nat.log2_lt hz).mpr (Nat.lt_trans h2 (by decide +kernel))
    · exact Nat.le_trans (toString_length_le h0 (k := 300) (by decide) h1) (by decide)
theorem r_jsV {ts : List TE} {m x : Str} {QS : Str → Hp → Prop} (hm : m.length ≤ 1000) (hx : x.length ≤ 1000) (q : ∀ z, tJs ts z σ H QS) : ∃ y : Str, V.str x = .str y ∧ (m ++ y).length ≤ sizeLine ∧ tJs ts (m ++ y) σ H QS := ⟨x, rfl, by rw [Z.len_app, sizeLine_eq]; omega, q _⟩
end

/-! ### asking an exception that was kept -/
section
variable {K : PySem.W.Frag} {mg : Str → Option Value} {B : Str} {cs : List Str} {ms : List (Str × Str)} {ns : List Str} {H : Hp} {Q : VK} {a : Addr} {d : Option Addr} {x : Str}
theorem r_isX (b : Bool) {y : Str} (E : Exs K mg B cs ms ns) (hx : x ∈ cs) (hy : y ∈ cs) (ha : H a = some (ExH (.ref (He.ga K x)) d a)) (hd : DictV H d) (q : Q (.bl b) H) (hb : (decide (x = y) || decide (y = B)) = b := by decide +kernel) : rIsiX K [.ref a, .ref (He.ga K y)] H Q :=
  .inr ⟨a, _, d, _, _, _, rfl, ha, hd, E.c x hx, .own _, E.k x hx y hy, hb ▸ q⟩
theorem r_isXv (E : Exs K mg B cs ms ns) (hx : x ∈ cs) (ha : H a = some (ExH (.ref (He.ga K x)) d a)) (hd : DictV H d) (q : Q (.bl true) H) : rIsiX K [.ref a, .ty "ValueError"] H Q :=
  .inr ⟨a, _, d, _, _, _, rfl, ha, hd, E.c x hx, .ty "ValueError", E.v x hx, q⟩
theorem r_isXn {y : Str} (E : Exs K mg B cs ms ns) (hy : y ∈ cs) (q : Q (.bl false) H) : rIsiX K [.non, .ref (He.ga K y)] H Q :=
  .inl ⟨_, _, _, _, _, rfl, .own _, .base .non, E.n y hy, q⟩
theorem kit_any {ys : List Str} (E : Exs K mg B cs ms ns) (hx : x ∈ cs) (hy : ∀ y ∈ ys, y ∈ cs) : PySem.W.kitAny K (.ref (He.ga K x)) (ys.map fun y => Value.ref (He.ga K y)) = some (ys.any fun y => decide (x = y) || decide (y = B)) := by
  induction ys with
  | nil => rfl
  | cons y ys ih =>
    have h1 := E.k x hx y (hy y List.mem_cons_self)
    have h2 := ih fun z hz => hy z (List.mem_cons_of_mem _ hz)
    rw [List.map_cons, List.any_cons]
    cases e : (decide (x = y) || decide (y = B)) with
    | true =>
      rw [e] at h1
      exact kitAny_cons h1 (fun z => nomatch z) fun _ => rfl
    | false =>
      rw [e] at h1
      rw [Bool.false_or]
      exact kitAny_cons h1 (fun _ => h2) fun z => nomatch z
theorem r_isXT (b : Bool) {tp : Addr} (ys : List Str) (E : Exs K mg B cs ms ns) (hx : x ∈ cs) (hy : ∀ y ∈ ys, y ∈ cs) (ha : H a = some (ExH (.ref (He.ga K x)) d a)) (hd : DictV H d) (ht : H tp = some (.tup (ys.map fun y => .ref (He.ga K y)))) (q : Q (.bl b) H) (hb : (ys.any fun y => decide (x = y) || decide (y = B)) = b := by decide +kernel) : rIsiXT K [.ref a, .ref tp] H Q := by
  subst hb
  refine .inr ⟨a, _, d, tp, _, ys.map fun y => Value.ref (He.ga K y), _, rfl, ha, hd, E.c x hx, ht, ?_, kit_any E hx hy, q⟩
  clear ht hy q
  induction ys with
  | nil => exact .nil
  | cons y ys ih => exact .cons (.own _) ih
theorem r_xv0 {te : TE} {n : Str} {σ : L2.St} (q : te σ H fun x H1 => ∃ (a C dd : Addr) (fs : List (Str × V)) (v : V), x = .ref a ∧ H1 a = some (ExH (.ref C) (some dd) a) ∧ H1 dd = some (.xd fs) ∧ fs.lookup n = some v ∧ XfC K C ∧ PySem.W.findIn K (.ref C) n = some none ∧ Q v H1) : tXv K n te σ H Q := q
theorem r_xv {R : V → Prop} {dd : Addr} {f : Str} {v : V} (E : OexM K mg x f) (ha : H a = some (ExH (.ref (He.ga K x)) (some dd) a)) (hd : H dd = some (.xd [(f, v)])) (q : R v) :
    ∃ (a' C dd : Addr) (fs : List (Str × V)) (v : V), V.ref a = .ref a' ∧ H a' = some (ExH (.ref C) (some dd) a') ∧ H dd = some (.xd fs) ∧ fs.lookup f = some v ∧ XfC K C ∧ PySem.W.findIn K (.ref C) f = some none ∧ R v :=
  ⟨a, _, dd, _, v, rfl, ha, hd, by simp [List.lookup], E.xf, E.no, q⟩
end
theorem r_dnewK {σ : L2.St} {H : Hp} {Q : VK} (q : ∀ p H', H p = none → Same H H' → H' p = some (.dK []) → Q (.ref p) H') : tDNewK σ H Q := fun p hp => q p _ hp (Same.new hp) upd_same
end Z

/-! Zd: data of any kind, told by its kind; dicts. -/
namespace Z
open PySem PySem.Spec PyProof.Rows L2

/-! ### data: none, bools, ints, texts, lists, tuples, an empty dict -/
mutual
inductive Dq (H : Hp) : V → PyData → Prop
  | non : Dq H .non .none
  | bl (b : Bool) : Dq H (.bl b) (.bool b)
  | int (i : Int) : Dq H (.int i) (.int i)
  | str (x : Str) (h : x.length ≤ 1000000) : Dq H (.str x) (.str x)
  | lst {a : Addr} {xs : List V} {ds : List PyData} : H a = some (.lst xs) → DqAll H xs ds → xs.length ≤ 1000000 → Dq H (.ref a) (.list ds)
  | tup {a : Addr} {xs : List V} {ds : List PyData} : H a = some (.tup xs) → DqAll H xs ds → xs.length ≤ 1000000 → Dq H (.ref a) (.tuple ds)
  | dic {a : Addr} : H a = some (.dK []) → Dq H (.ref a) (.dict [])
inductive DqAll (H : Hp) : List V → List PyData → Prop
  | nil : DqAll H [] []
  | cons {v : V} {vs : List V} {d : PyData} {ds : List PyData} : Dq H v d → DqAll H vs ds → DqAll H (v :: vs) (d :: ds)
end
mutual
theorem Dq.up {H H' : Hp} (e : Same H H') : ∀ {v : V} {d : PyData}, Dq H v d → Dq H' v d
  | _, _, .non => .non
  | _, _, .bl b => .bl b
  | _, _, .int i => .int i
  | _, _, .str x h => .str x h
  | _, _, .lst h r n => .lst (e _ _ h) (DqAll.up e r) n
  | _, _, .tup h r n => .tup (e _ _ h) (DqAll.up e r) n
  | _, _, .dic h => .dic (e _ _ h)
theorem DqAll.up {H H' : Hp} (e : Same H H') : ∀ {vs : List V} {ds : List PyData}, DqAll H vs ds → DqAll H' vs ds
  | _, _, .nil => .nil
  | _, _, .cons h r => .cons (Dq.up e h) (DqAll.up e r)
end
theorem DqAll.length {H : Hp} : ∀ {vs : List V} {ds : List PyData}, DqAll H vs ds → vs.length = ds.length
  | _, _, .nil => rfl
  | _, _, .cons _ r => by rw [List.length_cons, List.length_cons, DqAll.length r]
theorem DqAll.get {H : Hp} : ∀ {vs : List V} {ds : List PyData}, DqAll H vs ds → ∀ (i : Nat) (h1 : i < vs.length) (h2 : i < ds.length), Dq H vs[i] ds[i]
  | _, _, .cons h _, 0, _, _ => h
  | _, _, .cons _ r, i + 1, h1, h2 => DqAll.get r i (Nat.lt_of_succ_lt_succ h1) (Nat.lt_of_succ_lt_succ h2)
theorem DqAll.app {H : Hp} : ∀ {vs : List V} {ds : List PyData} {us : List V} {es : List PyData}, DqAll H vs ds → DqAll H us es → DqAll H (vs ++ us) (ds ++ es)
  | _, _, _, _, .nil, r => r
  | _, _, _, _, .cons h q, r => .cons h (DqAll.app q r)
/-! kinds -/
def isInt : PyData → Bool
  | .int _ | .bool _ => true
  | _ => false
def isBool : PyData → Bool
  | .bool _ => true
  | _ => false
def isStr : PyData → Bool
  | .str _ => true
  | _ => false
def isList : PyData → Bool
  | .list _ => true
  | _ => false
def isTuple : PyData → Bool
  | .tuple _ => true
  | _ => false
def isDict : PyData → Bool
  | .dict _ => true
  | _ => false
section
variable {K : PySem.W.Frag} {H : Hp} {Q : VK} {x : V} {d : PyData}
theorem r_isQ_int (h : Dq H x d) (q : Q (.bl (isInt d)) H) : rIsi K [x, .ty "int"] H Q := by
  cases h with
  | non => exact q_NoneType_int q
  | bl b => exact q_bool_int q
  | int i => exact q_int_int q
  | str z hz => exact q_str_int q
  | lst a r n => exact q_list_int a q
  | tup a r n => exact q_tuple_int a q
  | dic a => exact q_dict_int a q
theorem r_isQ_bool (h : Dq H x d) (q : Q (.bl (isBool d)) H) : rIsi K [x, .ty "bool"] H Q := by
  cases h with
  | non => exact q_NoneType_bool q
  | bl b => exact q_bool_bool q
  | int i => exact q_int_bool q
  | str z hz => exact q_str_bool q
  | lst a r n => exact q_list_bool a q
  | tup a r n => exact q_tuple_bool a q
  | dic a => exact q_dict_bool a q
theorem r_isQ_str (h : Dq H x d) (q : Q (.bl (isStr d)) H) : rIsi K [x, .ty "str"] H Q := by
  cases h with
  | non => exact q_NoneType_str q
  | bl b => exact q_bool_str q
  | int i => exact q_int_str q
  | str z hz => exact q_str_str q
  | lst a r n => exact q_list_str a q
  | tup a r n => exact q_tuple_str a q
  | dic a => exact q_dict_str a q
theorem r_isQ_list (h : Dq H x d) (q : Q (.bl (isList d)) H) : rIsi K [x, .ty "list"] H Q := by
  cases h with
  | non => exact q_NoneType_list q
  | bl b => exact q_bool_list q
  | int i => exact q_int_list q
  | str z hz => exact q_str_list q
  | lst a r n => exact q_list_list a q
  | tup a r n => exact q_tuple_list a q
  | dic a => exact q_dict_list a q
theorem r_isQ_tuple (h : Dq H x d) (q : Q (.bl (isTuple d)) H) : rIsi K [x, .ty "tuple"] H Q := by
  cases h with
  | non => exact q_NoneType_tuple q
  | bl b => exact q_bool_tuple q
  | int i => exact q_int_tuple q
  | str z hz => exact q_str_tuple q
  | lst a r n => exact q_list_tuple a q
  | tup a r n => exact q_tuple_tuple a q
  | dic a => exact q_dict_tuple a q
theorem r_isQ_dict (h : Dq H x d) (q : Q (.bl (isDict d)) H) : rIsi K [x, .ty "dict"] H Q := by
  cases h with
  | non => exact q_NoneType_dict q
  | bl b => exact q_bool_dict q
  | int i => exact q_int_dict q
  | str z hz => exact q_str_dict q
  | lst a r n => exact q_list_dict a q
  | tup a r n => exact q_tuple_dict a q
  | dic a => exact q_dict_dict a q
/-! inversions -/
theorem Dq.list {ds : List PyData} (h : Dq H x (.list ds)) : ∃ a xs, x = .ref a ∧ H a = some (.lst xs) ∧ DqAll H xs ds := by
  cases h with
  | lst a r n => exact ⟨_, _, rfl, a, r⟩
theorem Dq.tuple {ds : List PyData} (h : Dq H x (.tuple ds)) : ∃ a xs, x = .ref a ∧ H a = some (.tup xs) ∧ DqAll H xs ds := by
  cases h with
  | tup a r n => exact ⟨_, _, rfl, a, r⟩
theorem Dq.strV {z : Str} (h : Dq H x (.str z)) : x = .str z := by cases h; rfl
theorem Dq.intV {i : Int} (h : Dq H x (.int i)) : x = .int i := by cases h; rfl
theorem Dq.boolV {b : Bool} (h : Dq H x (.bool b)) : x = .bl b := by cases h; rfl
theorem Dq.noneV (h : Dq H x .none) : x = .non := by cases h; rfl
theorem Dq.split (h : Dq H x d) : (d = .none ∧ x = .non) ∨ (∃ b, d = .bool b ∧ x = .bl b) ∨ (∃ i, d = .int i ∧ x = .int i) ∨ (∃ z, d = .str z ∧ x = .str z ∧ z.length ≤ 1000000) ∨ (∃ a xs ds, d = .list ds ∧ x = .ref a ∧ H a = some (.lst xs) ∧ DqAll H xs ds ∧ xs.length ≤ 1000000) ∨
    (∃ a xs ds, d = .tuple ds ∧ x = .ref a ∧ H a = some (.tup xs) ∧ DqAll H xs ds ∧ xs.length ≤ 1000000) ∨ ∃ a, d = .dict [] ∧ x = .ref a ∧ H a = some (.dK []) := by
  cases h with
  | non => exact .inl ⟨rfl, rfl⟩
  | bl b => exact .inr (.inl ⟨b, rfl, rfl⟩)
  | int i => exact .inr (.inr (.inl ⟨i, rfl, rfl⟩))
  | str z hz => exact .inr (.inr (.inr (.inl ⟨z, rfl, rfl, hz⟩)))
  | lst a r n => exact .inr (.inr (.inr (.inr (.inl ⟨_, _, _, rfl, rfl, a, r, n⟩))))
  | tup a r n => exact .inr (.inr (.inr (.inr (.inr (.inl ⟨_, _, _, rfl, rfl, a, r, n⟩)))))
  | dic a => exact .inr (.inr (.inr (.inr (.inr (.inr ⟨_, rfl, rfl, a⟩)))))
theorem hu1 {u c : Nat} (h : u + 64 < c) : u + 1 < c := by omega
theorem DqAll.cons_inv {ys : List V} {d : PyData} {ds : List PyData} (h : DqAll H ys (d :: ds)) : ∃ v vs, ys = v :: vs ∧ Dq H v d ∧ DqAll H vs ds := by
  cases h with
  | cons a r => exact ⟨_, _, rfl, a, r⟩
theorem DqAll.nil_inv {ys : List V} (h : DqAll H ys []) : ys = [] := by cases h; rfl
end
/-! ### == of such data -/
section
variable {X : Cx} {pins : List (Addr × Obj)} {σ : L2.St} {H : Hp} {s : Shared}
mutual
theorem Dq.reads (I : Inv X pins σ H s) : ∀ (d : PyData) (v : V) (u : Value), Dq H v d → L2.RelV v u → ∃ as, Reads s.heap u d as
  | .none, _, _, h, r => by
    cases h
    cases r
    exact ⟨_, Reads.none⟩
  | .bool b, _, _, h, r => by
    cases h
    cases r
    exact ⟨_, Reads.bool b⟩
  | .int i, _, _, h, r => by
    cases h
    obtain ⟨t, rfl⟩ := r
    exact ⟨_, Reads.int i t⟩
  | .str x, _, _, h, r => by
    cases h
    obtain ⟨t, rfl⟩ := r
    exact ⟨_, Reads.str x t⟩
  | .list ds, _, _, h, r => by
    cases h with
    | lst hs ha _ =>
      cases r
      obtain ⟨its, rv, ⟨o, n, ho, hc, _, hd⟩, _⟩ := I.list (.inl (.inl hs))
      obtain ⟨as, hr⟩ := Dq.readsAll I ds _ its ha rv
      exact ⟨_, Reads.list ho hc hd hr⟩
  | .tuple ds, _, _, h, r => by
    cases h with
    | tup hs ha _ =>
      cases r
      obtain ⟨its, rv, ⟨o, ho, hc, n, hd⟩, _⟩ := I.tuple (.inl (.inl hs))
      obtain ⟨as, hr⟩ := Dq.readsAll I ds _ its ha rv
      exact ⟨_, Reads.tuple ho hc hd hr⟩
  | .dict kvs, _, _, h, r => by
    cases h with
    | @dic a ha =>
      cases r
      have hx : ObjOk X.prog X.w H s.heap a (.dK []) := I.hok a _ ha
      obtain ⟨_, _, vs, rel, dd⟩ := hx
      cases rel
      obtain ⟨o, es, ep, h1, h2, h3, _, h4, _⟩ := dd
      have e0 : es.toList = [] := by
        revert h4
        generalize es.toList = l
        intro h4
        cases h4
        rfl
      exact ⟨_, Reads.dict (kvs := []) (as := []) (bs := []) h1 h2.1 h3 (by rw [e0]; exact ReadsAll.nil) (by rw [e0]; exact ReadsAll.nil)⟩
theorem Dq.readsAll (I : Inv X pins σ H s) : ∀ (ds : List PyData) (vs : List V) (us : List Value), DqAll H vs ds → Vals vs us → ∃ as, ReadsAll s.heap us ds as
  | [], _, _, h, r => by
    cases h
    cases r
    exact ⟨_, ReadsAll.nil⟩
  | d :: ds, _, _, h, r => by
    cases h with
    | cons h1 h2 =>
      cases r with
      | cons r1 r2 =>
        obtain ⟨as, q1⟩ := Dq.reads I d _ _ h1 r1
        obtain ⟨bs, q2⟩ := Dq.readsAll I ds _ _ h2 r2
        exact ⟨_, ReadsAll.cons q1 q2⟩
end
end

section
variable {X : Cx}
def rEqQ : R2 := fun x y H Q => ∃ d e, Dq H x d ∧ Dq H y e ∧ SeqAt.shaped d = true ∧ SeqAt.shaped e = true ∧ Q (.bl (PyData.eqv d e)) H
def rNeQ : R2 := fun x y H Q => ∃ d e, Dq H x d ∧ Dq H y e ∧ SeqAt.shaped d = true ∧ SeqAt.shaped e = true ∧ Q (.bl (!PyData.eqv d e)) H
theorem op_eqQ (hu : X.A.units + 64 < cLine) : OpR X (compareOp .Eq) rEqQ := by
  intro pins s σ H x y v u Q I rx ry h
  obtain ⟨d, e, hd, he, sd, se, q⟩ := h
  obtain ⟨as, r1⟩ := Dq.reads I d x v hd rx
  obtain ⟨bs, r2⟩ := Dq.reads I e y u he ry
  exact SeqAt.compareEq_shaped r1 r2 sd se hu ⟨.bl _, H, I, rfl, q⟩
theorem op_neQ (hu : X.A.units + 64 < cLine) : OpR X (compareOp .NotEq) rNeQ := by
  intro pins s σ H x y v u Q I rx ry h
  obtain ⟨d, e, hd, he, sd, se, q⟩ := h
  obtain ⟨as, r1⟩ := Dq.reads I d x v hd rx
  obtain ⟨bs, r2⟩ := Dq.reads I e y u he ry
  exact SeqAt.compareNe_shaped r1 r2 sd se hu ⟨.bl _, H, I, rfl, q⟩
end
/-! ### sorted of ints, list(range(n)) -/
section
variable {X : Cx}
theorem k_sortI (K : PySem.W.Frag) (hK : X.K = K := by rfl) : CallR X (.builtin "sorted") (rSortedI K) := hK ▸ cr_sortedI
end
section
variable {K : PySem.W.Frag} {H : Hp} {Q : VK} {σ : L2.St} {ta : TE}
theorem r_sortI {a : Addr} {ns : List Int} (h : SqL K H a (ns.map V.int)) (q : ∀ (ns' : List Int) (l : Addr) H', ns'.Perm ns → ns'.Pairwise (· ≤ ·) → H l = none → Same H H' → H' l = some (.lst (ns'.map V.int)) → Q (.ref l) H') : rSortedI K [.ref a] H Q :=
  ⟨a, ns, rfl, h, fun ns' p h1 h2 hp => q ns' p _ h1 h2 hp (Same.new hp) upd_same⟩
theorem r_lrg0 (q : ta σ H fun x H1 => ∃ n, x = .int n ∧ RgOk 0 n ∧ ∀ q, H1 q = none → Q (.ref q) (upd H1 q (.lst (rgV 0 n)))) : tLstRg (tRg1 ta) σ H Q := q
theorem r_lrg1 {n : Int} {R : V → Hp → Prop} (h : RgOk 0 n) (q : ∀ (l : Addr) H', H l = none → Same H H' → H' l = some (.lst (rgV 0 n)) → R (.ref l) H') : RgOk 0 n ∧ ∀ q, H q = none → R (.ref q) (upd H q (.lst (rgV 0 n))) :=
  ⟨h, fun p hp => q p _ hp (Same.new hp) upd_same⟩
end
/-! ### dicts by texts -/
section
variable {K : PySem.W.Frag} {H : Hp} {D : Ends} {σ : L2.St}
theorem r_din {ty td : TE} {Q : VK} (q : ty σ H fun y H1 => td σ H1 fun x H2 => ∃ a o, x = .ref a ∧ DGet H2 a y o ∧ Q (.bl o.isSome) H2) : tDIn ty td σ H Q := q
theorem r_dnotin {ty td : TE} {Q : VK} (q : ty σ H fun y H1 => td σ H1 fun x H2 => ∃ a o, x = .ref a ∧ DGet H2 a y o ∧ Q (.bl (!o.isSome)) H2) : tDNotIn ty td σ H Q := q
theorem r_dput {td ty tv : TE} (q : tv σ H fun v H1 => td σ H1 fun x H2 => ty σ H2 fun y H3 => ∃ a H4, x = .ref a ∧ DPut H3 a y v H4 ∧ D.nx σ H4) : sDPut td ty tv D σ H := q
theorem r_dgetS {td ty : TE} {Q : VK} (q : td σ H fun x H1 => ty σ H1 fun y H2 => ∃ a v, x = .ref a ∧ DGet H2 a y (some v) ∧ Q v H2) : tDGet td ty σ H Q := q
/-- asked for the text z -/
theorem r_dgs {R : Option V → Prop} {a : Addr} {kvs : List (Key × V)} {z : Str} (h : H a = some (.dK kvs)) (q : R (valV kvs (.inr z))) : ∃ b o, V.ref a = .ref b ∧ DGet H b (.str z) o ∧ R o := ⟨a, _, rfl, DGet.k (k := .inr z) h, q⟩
theorem r_dps {a : Addr} {kvs : List (Key × V)} {z : Str} {v : V} (h : H a = some (.dK kvs)) (hl : kvs.length < sizeLine) (q : ∀ H', But a H H' → H' a = some (.dK (putK kvs (.inr z) v)) → D.nx σ H') : ∃ b H4, V.ref a = .ref b ∧ DPut H b (.str z) v H4 ∧ D.nx σ H4 :=
  ⟨a, _, rfl, .inl ⟨kvs, .inr z, h, rfl, hl, rfl⟩, q _ But.upd upd_same⟩
end
theorem dp_ints {K : PySem.W.Frag} {H : Hp} : ∀ ns : List Int, DpAll K H (ns.map V.int) (ns.map PyData.int)
  | [] => .nil
  | n :: ns => .cons (.int n) (dp_ints ns)
theorem eqvL_ints : ∀ (a b : List Int), PyData.eqvAll (a.map PyData.int) (b.map PyData.int) = decide (a = b)
  | [], [] => rfl
  | [], b :: bs => by simp [PyData.eqvAll]
  | a :: as, [] => by simp [PyData.eqvAll]
  | a :: as, b :: bs => by
    have ih := eqvL_ints as bs
    rw [List.map_cons, List.map_cons, PyData.eqvAll, ih, PyData.eqv, Bool.eq_iff_iff]
    simp
theorem eqv_ints (a b : List Int) : PyData.eqv (.list (a.map PyData.int)) (.list (b.map PyData.int)) = decide (a = b) := by
  rw [PyData.eqv]
  exact eqvL_ints a b
theorem shapedL : ∀ ns : List Int, PyData.canLayAll0 (ns.map PyData.int) = true
  | [] => rfl
  | n :: ns => by
    rw [List.map_cons, PyData.canLayAll0, shapedL ns]
    rfl
theorem depthL : ∀ ns : List Int, PyData.depthAll (ns.map PyData.int) = 0
  | [] => rfl
  | n :: ns => by
    rw [List.map_cons, PyData.depthAll, depthL ns, PyData.depth]
    rfl
theorem shaped_ints (ns : List Int) : SeqAt.shaped (.list (ns.map PyData.int)) = true := by
  unfold SeqAt.shaped
  rw [PyData.canLay0, shapedL, PyData.depth, depthL]
  rfl
theorem putLen {κ : Type} [DecidableEq κ] (kvs : List (κ × V)) (k : κ) (v : V) : (putK kvs k v).length ≤ kvs.length + 1 := by
  unfold putK
  split <;> simp
end Z

/-! Zf: more of lists; a dict == a list. -/
namespace PySem.SeqAt
open AutoSeq1 (wpAny_loadPart')
open MeetsSeq
theorem list_eq_declines_dict (l b : Addr) (items : Array Value) (n : Nat) (dd dd2 : Option Addr) (data2 : Data) (sl sl2 : Array (Option Value)) :
    Meets (Builtin.«list.__eq__» ⟨[.ref l, .ref b], []⟩) (fun _ R s => s.heap.get? l = some { cls := .type "list", dict := dd, data := .seq items n, slots := sl } ∧ s.heap.get? b = some { cls := .type "dict", dict := dd2, data := data2, slots := sl2 } ∧ R (.ok (.ret .notImplemented)) s) :=
  .of_wp fun prog w A R s h => by obtain ⟨hp, g, d, tk, os⟩ := s; obtain ⟨hl, hb, h⟩ := h; have f1 := F.sub_dict_list; wp_walk using wpAny_loadPart' hl, wpAny_loadPart' hb; exact ⟨_, rfl, h⟩
section
variable {A : Around} {s : Shared}
theorem RcAt.dict_list {l b : Addr} {items2 : Array Value} (hl : s.TypeIs (.ref l) "dict") (hb : s.heap.IsList b items2) (hu : A.units < cLine) : RcAt A s (.ref l) (.ref b) false := fun prog w E Q h => by
  obtain ⟨⟨cls, dd, data, sl⟩, ho, hc⟩ := id hl
  obtain ⟨⟨cls2, dd2, data2, sl2⟩, ho2, hc2, n2, hd2⟩ := id hb
  simp only at hc hc2 hd2
  subst hc hc2 hd2
  have hne : l ≠ b := fun e => by
    subst e
    rw [ho] at ho2
    exact absurd (congrArg (fun o : Obj => o.cls) (Option.some.inj ho2)) (by simp)
  have tb : s.TypeIs (.ref b) "list" := ⟨_, ho2, rfl⟩
  refine (rc_eq_decline_or (k := false) hl tb (by decide) F.sub_list_dict F.slot_dict_eq F.slot_list_eq_refl
    (fun Q' hq => ?_)
    (fun _ hq => call_meets F.slot_list_eq_refl ⟨_, ho2, rfl⟩ F.entry_list_eq (F.args_list_eq_2 _ _) (list_eq_declines_dict b l items2 n2 dd2 dd data sl2 sl) ⟨ho2, ho, hq⟩)
    (fun _ hq => wpAny_isSame_ref_other' hne ho ho2 (by simp) hq) (.inr hu) h)
  refine wpAny_call_entry F.slot_dict_eq hl F.entry_dict_eq ?_ (F.args_dict_eq_2 _ _)
  show wpAny _ _ (Builtin.Dict.dictSlotArgs "__eq__" ⟨[.ref l, .ref b], []⟩ >>= _) _ _ s
  refine wpAny_bind ?_
  unfold Builtin.Dict.dictSlotArgs
  refine wpAny_bind (wpAny_notOrdered_dict hl ?_)
  show wpAny _ _ (pure (Value.ref l, Value.ref b)) _ _ s
  refine wpAny_pure ?_
  refine wpAny_bind (wpAny_isInstance (T := "list") tb F.sub_list_dict ?_)
  simp only [Bool.not_false, if_true]
  wp_walk
  exact ⟨_, rfl, hq⟩
end
end PySem.SeqAt
namespace Z
open PySem PySem.Spec PyProof.Rows L2
section
variable {X : Cx}
def rEqDL : R2 := fun x y H Q => ∃ a b kvs ys, x = .ref a ∧ y = .ref b ∧ H a = some (.dK kvs) ∧ H b = some (.lst ys) ∧ Q (.bl false) H
theorem op_eqDL (hu : X.A.units + 64 < cLine) : OpR X (compareOp .Eq) rEqDL := by
  intro pins s σ H x y v u Q I rx ry h
  obtain ⟨a, b, kvs, ys, rfl, rfl, ha, hb, q⟩ := h
  cases rx
  cases ry
  have hx : ObjOk X.prog X.w H s.heap a (.dK kvs) := I.hok a _ ha
  obtain ⟨_, _, vs, rel, dd⟩ := hx
  obtain ⟨its, rv, pl, _⟩ := I.list (.inl (.inl hb))
  exact SeqAt.RcAt.dict_list dd.typeIs pl.isList (by omega) X.prog X.w _ _ ⟨.bl false, H, I, rfl, q⟩
def rEqX (K : PySem.W.Frag) : R2 := fun x y H Q => rEqP K x y H Q ∨ rEqDL x y H Q
theorem k_eqX (K : PySem.W.Frag) (hu : X.A.units + 64 < cLine) (hK : X.K = K := by rfl) : OpR X (compareOp .Eq) (rEqX K) := hK ▸ OpR.or (op_eqP hu) (op_eqDL hu)
theorem k_index (K : PySem.W.Frag) (hK : X.K = K := by rfl) : MtR X "list.index" (rIndex K) := hK ▸ mt_index
def cTup (K : PySem.W.Frag) : List V → Hp → VK → Prop := fun xs H Q => ∃ p ys, xs = [.ref p] ∧ ((SqL K H p ys ∧ ∀ l, H l = none → Q (.ref l) (upd H l (.tup ys))) ∨ (SqT K H p ys ∧ Q (.ref p) H))
theorem k_tuple (K : PySem.W.Frag) (hK : X.K = K := by rfl) : CallR X (.type "tuple") (cTup K) := hK ▸ call_tuple_of
end
section
variable {K : PySem.W.Frag} {H : Hp} {Q : VK}
theorem r_eqXd {x y : V} {d e : PyData} (hd : Dp K H x d) (he : Dp K H y e) (q : Q (.bl (PyData.eqv d e)) H) (h1 : SeqAt.shaped d = true) (h2 : SeqAt.shaped e = true) : rEqX K x y H Q := .inl (.inr ⟨d, e, hd, he, h1, h2, q⟩)
theorem r_eqXl {a b : Addr} {kvs : List (Key × V)} {ys : List V} (ha : H a = some (.dK kvs)) (hb : H b = some (.lst ys)) (q : Q (.bl false) H) : rEqX K (.ref a) (.ref b) H Q := .inr ⟨a, b, kvs, ys, rfl, rfl, ha, hb, q⟩
theorem r_tupL {p : Addr} {xs : List V} (h : SqL K H p xs) (q : ∀ l H', H l = none → Same H H' → H' l = some (.tup xs) → Q (.ref l) H') : cTup K [.ref p] H Q := ⟨p, xs, rfl, .inl ⟨h, fun l hl => q l _ hl (Same.new hl) upd_same⟩⟩
theorem r_popAt {l : Addr} {xs : List V} {n : Nat} {y : V} (h : H l = some (.lst xs)) (hn : n < 2 ^ 62) (hy : xs[n]? = some y) (q : ∀ H', But l H H' → H' l = some (.lst (xs.eraseIdx n)) → Q y H') : rPopAt (.ref l) [.int (n : Int)] H Q := by
  have h1 : n < xs.length := (List.getElem?_eq_some_iff.mp hy).1
  have e : ixN xs.length (n : Int) = some n := by
    unfold ixN
    rw [if_pos (by omega), if_pos (by omega)]
    rfl
  exact ⟨l, xs, n, n, y, rfl, rfl, h, by omega, by omega, (ixN_seq e).1, hy, q _ But.upd upd_same⟩
theorem r_clear {l : Addr} {xs : List V} (h : H l = some (.lst xs)) (q : ∀ H', But l H H' → H' l = some (.lst []) → Q .non H') : rClear (.ref l) [] H Q := ⟨l, xs, rfl, rfl, h, q _ But.upd upd_same⟩
theorem nd_inj {α : Type} {l : List α} (nd : l.Nodup) {i j : Nat} (hi : i < l.length) (hj : j < l.length) (e : l[i] = l[j]) : i = j := by
  have h := List.pairwise_iff_getElem.mp nd
  rcases Nat.lt_trichotomy i j with q | q | q
  · exact absurd e (h i j hi hj q)
  · exact q
  · exact absurd e.symm (h j i hj hi q)
/-- the place of a number in a list of numbers, each once -/
theorem r_indexN {a : Addr} {js : List Nat} {j : Nat} (h : SqL K H a (js.map fun n : Nat => V.int (n : Int))) (nd : js.Nodup) (hj : j < js.length) (q : Q (.int (j : Nat)) H) : rIndex K (.ref a) [.int (js[j] : Nat)] H Q := by
  refine ⟨a, _, _, j, .int (js[j] : Nat), rfl, rfl, h, rfl, ?_, ?_, ?_, ?_, q⟩
  · rw [List.all_map]
    exact List.all_eq_true.mpr fun _ _ => rfl
  · rw [List.getElem?_map, List.getElem?_eq_getElem hj]
    rfl
  · simp [eqV]
  · intro m z' hm hz
    rw [List.getElem?_map, List.getElem?_eq_getElem (by omega)] at hz
    cases hz
    have : js[m] ≠ js[j] := fun e => by
      have := nd_inj nd (by omega) hj e
      omega
    simp [eqV]
    omega
/-- a list so many times -/
theorem r_rep {l : Addr} {xs : List V} {n : Nat} (h : H l = some (.lst xs)) (hz : xs.length * n ≤ 16777216) (hn : n < 2 ^ 62) (q : ∀ p H', H p = none → Same H H' → H' p = some (.lst (List.replicate n xs).flatten) → Q (.ref p) H') : rMulP (.ref l) (.int (n : Int)) H Q := by
  refine .inr ⟨l, n, xs, rfl, rfl, h, by omega, by omega, ?_, fun p hp => ?_⟩
  · rw [show (n : Int).toNat = n by omega]
    exact szl hz
  · rw [show (n : Int).toNat = n by omega]
    exact q p _ hp (Same.new hp) upd_same
end
/-! ### the heap without one -/
section
variable {H H' : Hp} {l a : Addr} {o : HO}
theorem del_sub : Same (L2.del H l) H := fun b o e => by
  by_cases hb : b = l
  · rw [hb, del_same] at e
    cases e
  · rwa [del_ne hb] at e
theorem delS (h : Same H H') : Same (L2.del H l) (L2.del H' l) := fun b o e => by
  by_cases hb : b = l
  · rw [hb, del_same] at e
    cases e
  · rw [del_ne hb] at e ⊢
    exact h _ _ e
theorem delB (h : But l H H') : Same (L2.del H l) (L2.del H' l) := fun b o e => by
  by_cases hb : b = l
  · rw [hb, del_same] at e
    cases e
  · rw [del_ne hb] at e ⊢
    exact h _ _ hb e
theorem delG (h : H a = some o) (n : a ≠ l) : L2.del H l a = some o := by rw [del_ne n]; exact h
end
theorem at_in {xs : List V} {z : Int} (h0 : 0 ≤ z) (h1 : z < xs.length) : ∃ v, atI xs z = some v ∧ v ∈ xs := by
  obtain ⟨j, rfl⟩ : ∃ j : Nat, z = j := ⟨z.toNat, by omega⟩
  have hj : j < xs.length := by omega
  exact ⟨xs[j], atI_nat (List.getElem?_eq_getElem hj), List.getElem_mem hj⟩
/-! ### slices -/
theorem cut_from (xs : List V) (k : Nat) : cutV xs (some (k : Int)) none = xs.drop k := by
  unfold cutV
  rw [HT.sIx_nat, HT.sIx_none]
  by_cases h : k ≤ xs.length
  · rw [Nat.min_eq_left h, List.take_of_length_le]
    rw [List.length_drop]
    exact Nat.le_refl _
  · rw [Nat.min_eq_right (by omega), List.drop_of_length_le (Nat.le_refl _), List.drop_of_length_le (by omega), List.take_nil]
theorem cut_to (xs : List V) (k : Nat) : cutV xs none (some (k : Int)) = xs.take k := by
  unfold cutV
  rw [HT.sIx_nat, HT.sIx_none, List.drop_zero, Nat.sub_zero]
  by_cases h : k ≤ xs.length
  · rw [Nat.min_eq_left h]
  · rw [Nat.min_eq_right (by omega), List.take_of_length_le (Nat.le_refl _), List.take_of_length_le (by omega)]
theorem cut_neg1 (xs : List V) : cutV xs none (some (-1)) = xs.dropLast := by
  unfold cutV
  have e : HT.sIx xs.length xs.length (some (-1)) = xs.length - 1 := by
    show (if (-1 : Int) < 0 then ((-1 : Int) + (xs.length : Int)).toNat else min (-1 : Int).toNat xs.length) = _
    rw [if_pos (by decide)]
    omega
  rw [e, HT.sIx_none, List.drop_zero, Nat.sub_zero, List.dropLast_eq_take]
theorem at_neg1 {xs : List V} {v : V} (h : xs.getLast? = some v) : atI xs (-1) = some v := by
  unfold atI ixN
  have hn : xs ≠ [] := fun e => by
    rw [e] at h
    cases h
  have hl : 0 < xs.length := List.length_pos_iff.mpr hn
  rw [if_neg (by decide), if_pos (by omega), Option.bind_some]
  rw [List.getLast?_eq_getElem?] at h
  rw [show ((-1 : Int) + (xs.length : Int)).toNat = xs.length - 1 by omega]
  exact h
theorem DqAll.at {H : Hp} {xs : List V} {ds : List PyData} (h : DqAll H xs ds) {z : Int} (h0 : 0 ≤ z) (h1 : z < xs.length) : ∃ v d, atI xs z = some v ∧ Dq H v d ∧ d ∈ ds := by
  obtain ⟨j, rfl⟩ : ∃ j : Nat, z = j := ⟨z.toNat, by omega⟩
  have hj : j < xs.length := by omega
  have hj2 : j < ds.length := by rw [← h.length]; exact hj
  exact ⟨xs[j], ds[j], atI_nat (List.getElem?_eq_getElem hj), h.get j hj hj2, List.getElem_mem hj2⟩
/-! ### data without dicts: as Dp -/
mutual
theorem Dq.dp {K : PySem.W.Frag} {H : Hp} : ∀ {v : V} {d : PyData}, Dq H v d → PyData.canLay0 d = true → Dp K H v d
  | _, _, .non, _ => .non
  | _, _, .bl b, _ => .bl b
  | _, _, .int i, _ => .int i
  | _, _, .str x _, _ => .str x
  | _, _, .lst h r _, c => .lst (sqL h) (DqAll.dp r c)
  | _, _, .tup h r _, c => .tup (sqT h) (DqAll.dp r c)
  | _, _, .dic _, c => nomatch c
theorem DqAll.dp {K : PySem.W.Frag} {H : Hp} : ∀ {vs : List V} {ds : List PyData}, DqAll H vs ds → PyData.canLayAll0 ds = true → DpAll K H vs ds
  | _, _, .nil, _ => .nil
  | _, _, .cons h r, c => by
    rw [PyData.canLayAll0, Bool.and_eq_true_iff] at c
    exact .cons (Dq.dp h c.1) (DqAll.dp r c.2)
end
theorem shaped_lay {d : PyData} (h : SeqAt.shaped d = true) : PyData.canLay0 d = true := (Bool.and_eq_true_iff.mp h).1
theorem r_xf0 {a C : Addr} {cls : Value} {d : Option Addr} {f : Str} {te : TE} {σ : L2.St} {H : Hp} {Q : VK} (q : te σ H fun x H1 => x = .ref a ∧ cls = .ref C ∧ ∃ (dd : Addr) (fs : List (Str × V)) (v : V), d = some dd ∧ H1 dd = some (.xd fs) ∧ fs.lookup f = some v ∧ Q v H1) : tXf a cls d C f te σ H Q := q
theorem r_indexI {K : PySem.W.Frag} {H : Hp} {Q : VK} {a : Addr} {js : List Nat} {j n : Nat} (h : SqL K H a (js.map fun n : Nat => V.int (n : Int))) (nd : js.Nodup) (hj : j < js.length) (e : js[j] = n) (q : Q (.int (j : Nat)) H) : rIndex K (.ref a) [.int (n : Int)] H Q := by
  subst e
  exact r_indexN h nd hj q
/-- a slice of whole numbers -/
theorem cut_ints (ns : List Int) (lo hi : Option Int) : ∃ cs : List Int, cutV (ns.map V.int) lo hi = cs.map V.int ∧ cs.length ≤ ns.length := by
  unfold cutV
  refine ⟨(ns.drop (HT.sIx (ns.map V.int).length 0 lo)).take (HT.sIx (ns.map V.int).length (ns.map V.int).length hi - HT.sIx (ns.map V.int).length 0 lo), ?_, ?_⟩
  · rw [List.map_take, List.map_drop]
  · rw [List.length_take, List.length_drop]
    omega
end Z

/-! Zs: len(set(xs)), xs a list of any number of texts. -/
namespace Z
open PySem PySem.Spec PyProof.Rows
/-- how many unlike ones are among the first i -/
def cntS (zs : List Str) : Nat → Nat
  | 0 => 0
  | i + 1 => if (zs.take i).any (· == zs.getD i Str.empty) = true then cntS zs i else cntS zs i + 1
theorem cntS_le (zs : List Str) : ∀ i, cntS zs i ≤ i
  | 0 => Nat.le_refl _
  | i + 1 => by
    have := cntS_le zs i
    rw [cntS]
    split <;> omega
/-- all unlike -/
theorem cntS_nd (zs : List Str) : ∀ i, i ≤ zs.length → (cntS zs i = i ↔ (zs.take i).Nodup)
  | 0, _ => by simp [cntS]
  | i + 1, h => by
    have ih := cntS_nd zs i (by omega)
    have hle := cntS_le zs i
    have e : zs.getD i Str.empty = zs[i] := by
      rw [List.getD_eq_getElem?_getD, List.getElem?_eq_getElem (by omega)]
      rfl
    rw [cntS, e, ← List.take_append_getElem (by omega), List.nodup_append]
    have hany : ((zs.take i).any fun x => x == zs[i]) = decide (zs[i] ∈ zs.take i) := by
      rw [Bool.eq_iff_iff, decide_eq_true_iff, List.any_eq_true]
      constructor
      · rintro ⟨x, hx, ex⟩
        exact eq_of_beq ex ▸ hx
      · exact fun hm => ⟨_, hm, beq_self_eq_true _⟩
    rw [hany]
    by_cases hm : zs[i] ∈ zs.take i
    · rw [decide_eq_true hm, if_pos rfl]
      constructor
      · intro q
        omega
      · intro q
        exact absurd rfl (q.2.2 _ hm _ List.mem_cons_self)
    · rw [decide_eq_false hm, if_neg Bool.false_ne_true]
      constructor
      · intro q
        refine ⟨ih.mp (by omega), List.pairwise_singleton _ _, fun a ha b hb => ?_⟩
        rw [List.mem_singleton] at hb
        subst hb
        exact fun z => hm (z ▸ ha)
      · intro q
        have := ih.mpr q.1
        omega
/-- an empty one, as the class makes it -/
def set0 (led : Bool) : Obj := { cls := .type "set", dict := none, data := .set #[] 0 (.fresh 0 0 led) }
section
variable {prog : Program} {w : World} {Ar : Around} {Ok : Result → Shared → Prop} {It : Addr} {fp wr : List Addr} {G : Array GenState → Array GenState → Prop} {n : Nat} {Pv : Nat → Value → Prop} {Sv : Nat → Shared → Prop}
/-- what is in it between the turns -/
abbrev Has (prog : Program) (w : World) (B : Addr) (zs : List Str) (i : Nat) (h : Heap) : Prop := h.SetOf (strKind prog w) B (fun z => (zs.take i).any (· == z)) (cntS zs i)
theorem Has.keep {B : Addr} {zs : List Str} {i : Nat} {h h' : Heap} (q : Has prog w B zs i h) (k : ∀ o, h.get? B = some o → h'.get? B = some o) : Has prog w B zs i h' := by
  obtain ⟨o, r⟩ := q
  obtain ⟨es, ep, t, ho, r⟩ := r
  exact ⟨o, es, ep, t, k o ho, r⟩
theorem Has.more {B : Addr} {zs : List Str} {i : Nat} {h : Heap} (hi : i < zs.length)
    (q : h.SetOf (strKind prog w) B (fun z => (zs.take i).any (· == z) || decide (z = zs.getD i Str.empty)) (if (zs.take i).any (· == zs.getD i Str.empty) = true then cntS zs i else cntS zs i + 1)) : Has prog w B zs (i + 1) h := by
  refine SetOf_congr q (fun z => ?_) rfl
  have e : zs.getD i Str.empty = zs[i] := by
    rw [List.getD_eq_getElem?_getD, List.getElem?_eq_getElem hi]
    rfl
  rw [← List.take_append_getElem hi, List.any_append, e]
  congr 1
  rw [List.any_cons, List.any_nil, Bool.or_false, Bool.eq_iff_iff, decide_eq_true_iff, beq_iff_eq]
  exact eq_comm
theorem setLoop (Wk : WalksS prog w Ar.in1 It fp wr G n Pv Sv) (B : Addr) (hB : B ∉ fp) (zs : List Str) (hn : zs.length = n) (room : n + 1 < scanBound) (vals : ∀ j v, Pv j v → ∃ t, v = .str (zs.getD j Str.empty) t) :
    ∀ (left i : Nat) (sh : Shared), n - i = left → i ≤ n → Sv i sh → Has prog w B zs i sh.heap → (∀ sh', Moved (B :: wr) G sh sh' → Has prog w B zs n sh'.heap → Ok (.ok (.ret .none)) sh') →
      codeAny (model prog w) Ar (.builtin "set.update.loop" ⟨[.ref B, .ref It], []⟩) Ok sh := by
  have nw : B ∉ wr := fun q => hB (Wk.sub _ q)
  have more : ∀ b ∈ wr, b ∈ B :: wr := fun b q => List.mem_cons_of_mem _ q
  intro left
  induction left with
  | zero =>
    intro i sh e1 e2 st has fin
    obtain rfl : i = n := by omega
    refine codeAny_builtin PyProof.Rows.F.entry_set_update_loop ?_
    rw [Around.under_plainId PyProof.Rows.F.plain_set_update_loop _]
    show wpAny _ Ar.in1 (pyNext (.ref It) >>= _) _ _ sh
    refine wpAny_bind (Wk.done sh _ _ st fun sh' mv => ?_)
    show wpAny _ Ar.in1 (ret Value.none) _ _ sh'
    exact wpAny_pure (fin sh' (mv.mono more) (has.keep fun o e => mv.heap B o nw e))
  | succ left ih =>
    intro i sh e1 e2 st has fin
    have lt : i < n := by omega
    refine codeAny_builtin PyProof.Rows.F.entry_set_update_loop ?_
    rw [Around.under_plainId PyProof.Rows.F.plain_set_update_loop _]
    show wpAny _ Ar.in1 (pyNext (.ref It) >>= _) _ _ sh
    refine wpAny_bind (Wk.item i sh _ _ lt st fun v sh' pv st' mv => ?_)
    obtain ⟨tk, rfl⟩ := vals i v pv
    have has' : Has prog w B zs i sh'.heap := has.keep fun o e => mv.heap B o nw e
    show wpAny _ Ar.in1 (holding [Value.str (zs.getD i Str.empty) tk] (setAdd B (.str (zs.getD i Str.empty) tk)) >>= _) _ _ sh'
    refine wpAny_bind (wpAny_holding ?_)
    unfold setAdd
    refine wpAny_holding (wpAny_bind ((strKind prog w).pyHash (k := zs.getD i Str.empty) (strKind_is _ _ _ _) ?_))
    have rm : cntS zs i + 1 < scanBound := by
      have := cntS_le zs i
      omega
    refine wpAny_setAddHashed_of (knd := strKind prog w) (s := { sh' with toks := sh'.toks + 1 }) (strKind_is _ _ _ _) rfl has' rm fun h2 but set2 => ?_
    have off : ∀ b, b ≠ B → ∀ o, sh'.heap.get? b = some o → h2.get? b = some o := fun b nb o e => (but.2 b nb).trans e
    have has2 : Has prog w B zs (i + 1) h2 := Has.more (by omega) set2
    refine wpAny_pure ⟨plainId_quiet PyProof.Rows.F.plain_set_update_loop _, ih (i + 1) { sh' with heap := h2, toks := sh'.toks + 1 } (by omega) lt (Wk.frame _ sh' _ _ st' (Nat.le_succ _) fun b q o e => off b (fun z => hB (z ▸ q)) o e) has2 fun sh3 mv3 has3 => ?_⟩
    exact fin sh3 (Moved.trans Wk.gtrans ((mv.mono more).then_heap (Nat.le_succ _) fun b o q e => off b (fun z => q (by rw [z]; exact List.mem_cons_self)) o e) mv3) has3
end
section
variable {prog : Program} {w : World} {Ar : Around} {Er : Value → Shared → Prop} {sh : Shared}
set_option maxHeartbeats 3200000 in
/-- set(xs): the call -/
theorem setCall {a : Addr} {its : Array Value} {zs : List Str} {Q : Value → Shared → Prop} (nh : Ar.handled = none) (ls : sh.heap.IsList a its) (tx : StrsAre its.toList zs) (room : its.size + 1 < scanBound)
    (q : ∀ (h2 : Heap) (tk : Nat), Has prog w sh.heap.objs.size zs its.size h2 → (∀ b o, b < sh.heap.objs.size → sh.heap.get? b = some o → h2.get? b = some o) → Q (.ref sh.heap.objs.size) { sh with heap := h2, toks := tk }) :
    wpAny (model prog w) Ar (call (.type "set") [.ref a]) Q Er sh := by
  obtain ⟨mc, mt, m1⟩ := PySem.F.called_set.mro
  have m2 := PySem.F.called_set.made
  have m3 := PySem.F.called_set.sub
  have m4 := PySem.F.called_set.notType
  have m5 := PySem.F.called_set.canCreate
  have m6 := PySem.F.typeCall_set_1 (.ref a)
  refine wpAny_call (codeAny_of_tree ?_)
  show wpAny _ _ (callAny (.type "set") _) _ _ _
  refine wpAny_pure ⟨Code.quiet_builtin _ (by decide +kernel), codeAny_builtin PySem.F.entry_type_call ?_⟩
  rw [Around.under_plain (weight_type_call_type "set" [.ref a] []) rfl]
  repeat (any_goals (first | assumption | wp_step))
  refine codeAny_mono (code_set_new_1 (.ref a) (E := Er) (Q₁ := fun v s1 => ∃ led : Bool, v = .ref sh.heap.objs.size ∧ s1 = { sh with heap := sh.heap.push (set0 led) }) fun led => ⟨led, rfl, rfl⟩) fun r s1 h1 => ?_
  cases r with
  | error e => exact h1
  | ok fl =>
    cases fl with
    | ret v =>
      obtain ⟨led, rfl, rfl⟩ := h1
      have there : (sh.heap.push (set0 led)).get? sh.heap.objs.size = some (set0 led) := Heap.get?_push_size _ rfl
      have ty : Shared.TypeIs { sh with heap := sh.heap.push (set0 led) } (.ref sh.heap.objs.size) "set" := ⟨_, there, rfl⟩
      have i1 := PySem.F.called_set.init.lookup
      have i2 := PySem.F.called_set.init.bind (.ref sh.heap.objs.size)
      repeat (any_goals (first | assumption | wp_step))
      refine codeAny_mono (codeAny_call_builtin (R := wants (fun v s2 => v = .none ∧ ∃ h2 tk, s2 = { sh with heap := h2, toks := tk } ∧ Has prog w sh.heap.objs.size zs its.size h2 ∧
          (∀ b o, b < sh.heap.objs.size → sh.heap.get? b = some o → h2.get? b = some o)) Er) PySem.F.called_set.init.plain PySem.F.entry_set_init (check_set_init_1 ty ?_)) fun r2 s2 h2 => ?_
      · obtain ⟨⟨lc, ld, ldt, lsl⟩, lo, lcl, ln, ldd⟩ := ls
        simp only at lcl ldd
        subst lcl; subst ldd
        have lo2 : (sh.heap.push (set0 led)).get? a = some { cls := .type "list", dict := ld, data := .seq its ln, slots := lsl } := Heap.get?_push_of_some _ lo
        have u1 := PySem.F.sub_list_set
        have u2 := PySem.F.sub_list_frozenset
        have u3 : (Value.type "list" == Value.type "dict") = false := by decide
        have ls2 : (sh.heap.push (set0 led)).IsList a its := ⟨_, lo2, rfl, ln, rfl⟩
        unfold Builtin.«set.__init__» noKeywords Builtin.Frozenset.updateFrom
        generalize hPy : pyIter = Py
        wp_walk
        subst hPy
        refine wpAny_pyIter_list ls2 (wpAny_bind (wpAny_runValue ?_))
        have lt : a < sh.heap.objs.size := Heap.lt_size lo
        have nh3 : Ar.in1.in1.in1.handled = none := by simp [nh]
        have n1 : a ≠ (sh.heap.push (set0 led)).objs.size := by
          rw [Heap.size_push]
          exact Nat.ne_of_lt (Nat.lt_succ_of_lt lt)
        have n2 : sh.heap.objs.size ∉ [(sh.heap.push (set0 led)).objs.size, a] := by
          rw [Heap.size_push]
          intro z
          rcases List.mem_cons.mp z with z | z
          · exact absurd z (Nat.ne_of_lt (Nat.lt_succ_self _))
          · exact Nat.ne_of_gt lt (List.mem_singleton.mp z)
        have hz : zs.length = its.size := by rw [← StrsAre.len_eq tx, Array.length_toList]
        refine setLoop ((Walks.list nh3 _ a n1 its).toS) sh.heap.objs.size n2 zs hz room (fun i v e => SS.strs_at tx i v (by rw [Array.getElem?_toList]; exact e)) (its.size - 0) 0 _ (by omega) (Nat.zero_le _)
          ⟨⟨_, Heap.get?_push_size _ rfl, rfl, rfl⟩, (ls2.push _)⟩ ?start ?done
        case start =>
          have there2 : ((sh.heap.push (set0 led)).push { cls := .type "list_iterator", data := .fields #[.ref a, .int 0 0] }).get? sh.heap.objs.size = some (set0 led) := Heap.get?_push_of_some _ there
          exact SetOf_congr ((setObjOf_fresh (knd := strKind prog w) led).setOf there2 (by unfold scanBound; omega)) (fun _ => rfl) rfl
        case done =>
          rintro ⟨h3, g3, d3, t3, o3⟩ mv has3
          obtain rfl : g3 = sh.gens := mv.gens
          obtain rfl : d3 = sh.drawn := mv.drawn
          obtain rfl : o3 = sh.os := mv.os
          show wpAny _ _ _ _ _ _
          refine wpAny_pure ?_
          show wpAny _ _ (ret Value.none) _ _ _
          refine wpAny_pure ⟨rfl, h3, t3, rfl, has3, fun b o lb e => mv.heap b o ?_ (Heap.get?_push_of_some _ (Heap.get?_push_of_some _ e))⟩
          rw [Heap.size_push]
          intro z
          rcases List.mem_cons.mp z with z | z
          · exact Nat.ne_of_lt lb z
          · exact Nat.ne_of_lt (Nat.lt_succ_of_lt lb) (List.mem_singleton.mp z)
      · cases r2 with
        | error e => exact h2
        | ok f2 =>
          cases f2 with
          | ret r =>
            obtain ⟨rfl, h3, tk, rfl, has3, kp⟩ := h2
            repeat (any_goals (first | assumption | wp_step))
            exact q _ _ has3 kp
          | _ => exact h2.elim
    | _ => exact h1.elim
end
section
open L2
variable {X : Cx}
/-- len(set(e)), e a list of texts -/
def tLenSetS (K : PySem.W.Frag) (ta : TE) : TE := fun σ H Q => ta σ H fun x H1 => ∃ l, ∃ zs : List Str, x = .ref l ∧ SqL K H1 l (zs.map V.str) ∧ zs.length ≤ 40 ∧ Q (.int (cntS zs zs.length : Nat)) H1
theorem pe_lenSetS (K : PySem.W.Frag) {e : Expr} {ta : TE} {p p2 p3 pos : Pos} (hc : X.calm = true) (hg : Gl X "len") (hm : X.mg "len" = none) (hg2 : Gl X "set") (hm2 : X.mg "set" = none) (ha : PE X e ta) (hK : X.K = K := by rfl)
    (na : starEach [e] X.env = (false, eval e X.env) :: starEach [] X.env := by rfl) : PE X (.Call (.Name "len" p) [.Call (.Name "set" p2) [e] [] p3] [] pos) (tLenSetS K ta) := by
  subst hK
  refine ⟨fun pins s σ H Q I h => Call_ (ld_blt I hg hm boot_len ?_)⟩
  refine callWith_builtin1 (args_cons (Call_ (ld_blt I hg2 hm2 boot_set ?_)) rfl) rfl rfl
  refine callWith_type1 (args_cons (thn (ha.run pins s σ H _ I h) fun v s1 z => args_nil ?_) na) na rfl
  obtain ⟨x, H1, I1, rx, l, zs, rfl, hl, hz, q⟩ := z
  cases rx
  obtain ⟨its, r, pl, _⟩ := I1.list hl
  have el : its.toArray.size = zs.length := by rw [List.size_toArray, ← r.length, List.length_map]
  refine setCall (I1.ok.hd hc) pl.isList (by simpa using strsAre_of r) (by unfold scanBound; omega) fun h2 tk has kp => args_nil ?_
  rw [el] at has
  obtain ⟨o, es, ep, t, ho, hex, hd, _, _, _, hf, hn⟩ := has
  have I2 : Inv X pins σ H1 { s1 with heap := h2, toks := tk } := I1.kept fun b o e => kp b o (Heap.lt_size e) e
  have := cntS_le zs zs.length
  exact call_len_set ho hex hd hf (by rw [hn]; omega) ⟨.int (cntS zs zs.length : Nat), H1, I2.tok _, ⟨_, by rw [hn]⟩, q⟩
theorem r_lenSetS {K : PySem.W.Frag} {ta : TE} {σ : L2.St} {H : Hp} {Q : VK} (q : ta σ H fun x H1 => ∃ l, ∃ zs : List Str, x = .ref l ∧ SqL K H1 l (zs.map V.str) ∧ zs.length ≤ 40 ∧ Q (.int (cntS zs zs.length : Nat)) H1) : tLenSetS K ta σ H Q := q
end
end Z

/-! Zg: xs[::-1]; max of a list; what is new. -/
namespace Z
open PySem PySem.Spec PyProof.Rows L2
section
variable {X : Cx} {e : Expr} {te : TE} {k : Nat} {p1 p2 p3 pos : Pos}
theorem k_revL (K : PySem.W.Frag) (he : PE X e te) (hK : X.K = K := by rfl) : PE X (.Subscript e (.Slice none none (some (.UnaryOp .USub (.Constant (.int 1) k p1) p2)) p3) pos) (tRevL K te) := hK ▸ pe_revL he
end
section
variable {K : PySem.W.Frag} {H : Hp} {Q : VK} {σ : L2.St} {te : TE}
def RevW (x : V) (H : Hp) (Q : VK) (K : PySem.W.Frag) : Prop := ∃ a xs, x = .ref a ∧ SqL K H a xs ∧ ∀ p, H p = none → Q (.ref p) (upd H p (.lst xs.reverse))
theorem r_revL (q : te σ H fun x H1 => RevW x H1 Q K) : tRevL K te σ H Q := q
theorem r_revW {a : Addr} {xs : List V} (h : SqL K H a xs) (q : ∀ p H', H p = none → Same H H' → H' p = some (.lst xs.reverse) → Q (.ref p) H') : RevW (.ref a) H Q K := ⟨a, xs, rfl, h, fun p hp => q p _ hp (Same.new hp) upd_same⟩
end
theorem DqAll.dels {H H' : Hp} {l : Addr} {xs : List V} {ds : List PyData} (h : DqAll (L2.del H l) xs ds) (e : Same H H') : DqAll (L2.del H' l) xs ds := h.up (delS e)
/-- a comprehension whose variables are named as the def's own -/
theorem lcWw {σ σ0 : L2.St} {H : Hp} {Q : VK} {g : TG} {tt : TT} {te : TE} {vs : List Nat} {J : It} (hw : wipe σ vs = σ0) (h0 : wipe σ0 vs = σ0) (q : LcQ σ0 g tt te vs Q J H) : LcQ σ g tt te vs Q J H := by
  unfold LcQ at q ⊢
  rw [h0] at q
  rw [hw]
  exact q
section
variable {X : Cx}
theorem k_maxL (K : PySem.W.Frag) (hc : X.calm = true) (hK : X.K = K := by rfl) : CallR X (.builtin "max") (rMax K) := hK ▸ cr_max hc
def cIntB : List V → Hp → VK → Prop := fun xs H Q => (∃ i, xs = [.int i] ∧ Q (.int i) H) ∨ ∃ k, xs = [.bl k] ∧ Q (.int (if k then 1 else 0)) H
theorem call_intB : CallR X (.type "int") cIntB := call_int1
theorem r_intB {k : Bool} {H : Hp} {Q : VK} (q : Q (.int (if k then 1 else 0)) H) : cIntB [.bl k] H Q := .inr ⟨k, rfl, q⟩
end
section
variable {K : PySem.W.Frag} {σ : L2.St} {H : Hp} {Q : VK} {g : TG} {tt : TT} {te : TE} {vs : List Nat} {J : It} {n : Nat} {G : Hp → Prop} {Y : Nat → Hp → V → Hp → Prop}
/-- lcW, where what stands between the turns may speak of the new list's place -/
theorem lcW2 (w : Walk J n G Y) (R : Addr → Nat → List V → Hp → Prop) (hw : wipe σ vs = σ) (hG : ∀ H', Same H H' → G H') (h0 : ∀ Dl H', H Dl = none → Same H H' → R Dl 0 [] H')
    (hs : ∀ i x acc Dl H' H'', i < n → H Dl = none → Same H H' → H' Dl = some (.lst acc) → acc.length ≤ i → R Dl i acc H' → Y i H' x H'' → g x σ H'' fun σ2 H2 => wipe σ2 vs = σ ∧ tt σ2 H2 fun b H3 =>
      if b = true then te σ2 H3 (LcP H Dl (R Dl) (i + 1)) else LcI H Dl (R Dl) (i + 1) H3)
    (hd : ∀ acc Dl H', H Dl = none → Same H H' → H' Dl = some (.lst acc) → R Dl n acc H' → Q (.ref Dl) H') : LcQ σ g tt te vs Q J H := by
  intro Dl hD
  rw [hw]
  refine Eq.mp (by rw [hw]) (lc_it (σ := σ) (vs := vs) (g := g) (tt := tt) (te := te) (H1 := H) (D := Dl) (Qd := fun H' => Q (.ref Dl) H') w (LcI H Dl (R Dl)) ⟨[], Nat.le_refl _, Same.new hD, upd_same, h0 Dl _ hD (Same.new hD)⟩ (fun i H' _ ⟨_, _, e, _⟩ => hG H' e) (fun i x H' H'' hi ⟨acc, hl, e, ed, r⟩ y => ?_) fun H' ⟨acc, _, e, ed, r⟩ => hd acc Dl H' hD e ed r)
  rw [hw]
  exact hs i x acc Dl H' H'' hi hD e ed hl r y
end
end Z
namespace Z
open PySem PySem.Spec PyProof.Rows L2
/-- an exception kept at a new place, behind a change at l -/
theorem keepE {X G2 G3 : Hp} {ea l : Addr} {o : HO} (e : Same X G2) (he : G2 ea = none) (hX : X l = none) (b : But l G2 G3) : Same X (upd G3 ea o) := fun c u h => by
  have h2 := e c u h
  rw [upd_ne (ne_of_none h2 he)]
  exact b c u (ne_of_none h hX) h2
theorem toDel {X G : Hp} {l : Addr} (e : Same X G) (hX : X l = none) : Same X (L2.del G l) := fun c u h => by
  rw [del_ne (ne_of_none h hX)]
  exact e c u h
end Z

/-! Zj: what stands still of a heap, outside of the places that change; comprehensions over it. -/
namespace Z
open PySem PySem.Spec PyProof.Rows L2
/-- F: a part of H that stands still, outside of M -/
structure Fz (M : List Addr) (F H : Hp) : Prop where
  s : Same F H
  n : ∀ a ∈ M, F a = none
  v : ∀ a ∈ M, ∃ o, H a = some o
/-- a step: what stands still grows, the heap stays -/
structure Ext (M : List Addr) (F H F' H' : Hp) : Prop where
  f : Same F F'
  s : Same H H'
  z : Fz M F' H'
section
variable {M : List Addr} {F H F' H' F2 H2 : Hp} {a l p : Addr} {o : HO}
theorem Fz.ext (z : Fz M F H) : Ext M F H F H := ⟨Same.refl _, Same.refl _, z⟩
theorem Ext.tr (b : Ext M F' H' F2 H2) (a : Ext M F H F' H') : Ext M F H F2 H2 := ⟨a.f.trans b.f, a.s.trans b.s, b.z⟩
theorem Fz.get (z : Fz M F H) (h : F a = some o) : H a = some o := z.s _ _ h
theorem Fz.ne (z : Fz M F H) (h : F a = some o) (m : l ∈ M) : a ≠ l := ne_of_none h (z.n l m)
theorem Fz.fr (z : Fz M F H) (h : H p = none) : F p = none := z.s.free h
theorem Fz.same (z : Fz M F H) (e : Same H H') : Ext M F H F H' := ⟨Same.refl _, e, z.s.trans e, z.n, fun a m => by
  obtain ⟨o, h⟩ := z.v a m
  exact ⟨o, e _ _ h⟩⟩
theorem Same.updN (h : F p = none) : Same F (upd F p o) := Same.new h
/-- a thing of the heap, outside of M: it stands still from now on -/
theorem Fz.add (z : Fz M F H) (h : H p = some o) (m : p ∉ M) : Ext M F H (upd F p o) H ∧ upd F p o p = some o := by
  refine ⟨⟨fun b u e => ?_, Same.refl _, fun b u e => ?_, fun b m2 => ?_, z.v⟩, upd_same⟩
  · by_cases hb : b = p
    · subst hb
      rw [upd_same]
      exact h.symm.trans (z.s _ _ e)
    · rw [upd_ne hb]
      exact e
  · by_cases hb : b = p
    · subst hb
      rw [upd_same] at e
      rw [h]
      exact e
    · rw [upd_ne hb] at e
      exact z.s _ _ e
  · rw [upd_ne (fun e : b = p => m (by rw [← e]; exact m2))]
    exact z.n b m2
theorem Fz.new (z : Fz M F H) (h : H p = none) (e : Same H H') (g : H' p = some o) : Ext M F H (upd F p o) H' ∧ upd F p o p = some o := by
  have nm : p ∉ M := fun m => by
    obtain ⟨o, q⟩ := z.v p m
    rw [h] at q
    cases q
  have e1 := z.same e
  obtain ⟨e2, q⟩ := e1.z.add g nm
  exact ⟨e2.tr e1, q⟩
/-- a place of M changed -/
theorem Fz.but (z : Fz M F H) (m : l ∈ M) (b : But l H H') (h : ∃ o, H' l = some o) : Fz M F H' := ⟨fun a o e => b a o (z.ne e m) (z.get e), z.n, fun a ma => by
  by_cases q : a = l
  · subst q
    exact h
  · obtain ⟨o, e⟩ := z.v a ma
    exact ⟨o, b _ _ q e⟩⟩
/-- one more place that changes: new -/
theorem Fz.open_ (z : Fz M F H) (h : F l = none) (g : H l = some o) : Fz (l :: M) F H := ⟨z.s, fun a m => by
  rcases List.mem_cons.mp m with rfl | m
  · exact h
  · exact z.n a m, fun a m => by
  rcases List.mem_cons.mp m with rfl | m
  · exact ⟨_, g⟩
  · exact z.v a m⟩
theorem Fz.tail (z : Fz (l :: M) F H) : Fz M F H := ⟨z.s, fun a m => z.n a (List.mem_cons_of_mem _ m), fun a m => z.v a (List.mem_cons_of_mem _ m)⟩
theorem Fz.hd (z : Fz (l :: M) F H) : F l = none := z.n l List.mem_cons_self
/-- it changes no more -/
theorem Fz.close (z : Fz (l :: M) F H) (g : H l = some o) (nm : l ∉ M) : Ext M F H (upd F l o) H ∧ upd F l o l = some o := z.tail.add g nm
theorem Ext.nm (z : Fz M F H) (h : H l = none) : l ∉ M := fun m => by
  obtain ⟨o, q⟩ := z.v l m
  rw [h] at q
  cases q
theorem Ext.tail (e : Ext (l :: M) F H F' H') : Ext M F H F' H' := ⟨e.f, e.s, e.z.tail⟩
theorem Fz.nil : Fz [] H H := ⟨Same.refl _, fun _ m => absurd m List.not_mem_nil, fun _ m => absurd m List.not_mem_nil⟩
theorem Ext.up {v : V} {d : PyData} (e : Ext M F H F' H') (h : Dq F v d) : Dq F' v d := h.up e.f
theorem Ext.ups {xs : List V} {ds : List PyData} (e : Ext M F H F' H') (h : DqAll F xs ds) : DqAll F' xs ds := h.up e.f
theorem Ext.get (e : Ext M F H F' H') (h : F a = some o) : F' a = some o := e.f _ _ h
theorem Ext.old (e : Ext M F H F' H') (h : H a = some o) : H' a = some o := e.s _ _ h
theorem Fz.up {v : V} {d : PyData} (z : Fz M F H) (h : Dq F v d) : Dq H v d := h.up z.s
theorem Fz.ups {xs : List V} {ds : List PyData} (z : Fz M F H) (h : DqAll F xs ds) : DqAll H xs ds := h.up z.s
theorem Ext.fr (e : Ext M F H F' H') (h : H' a = none) : H a = none := e.s.free h
end
/-- all but M -/
def hideL (H : Hp) (M : List Addr) : Hp := fun a => if a ∈ M then none else H a
theorem hide_get {H : Hp} {M : List Addr} {a : Addr} {o : HO} (h : H a = some o) (m : a ∉ M) : hideL H M a = some o := by
  unfold hideL
  rw [if_neg m]
  exact h
theorem hide_in {H : Hp} {M : List Addr} {a : Addr} (m : a ∈ M) : hideL H M a = none := if_pos m
theorem Fz.hide {H : Hp} {M : List Addr} (v : ∀ a ∈ M, ∃ o, H a = some o) : Fz M (hideL H M) H := ⟨fun a o e => by
  by_cases m : a ∈ M
  · rw [hide_in m] at e
    cases e
  · unfold hideL at e
    rwa [if_neg m] at e, fun a m => hide_in m, v⟩
theorem hide_same {F H : Hp} {M : List Addr} (s : Same F H) (n : ∀ a ∈ M, F a = none) : Same F (hideL H M) := fun a o e => hide_get (s _ _ e) fun m => by
  rw [n a m] at e
  cases e
/-! ### comprehensions -/
def RM (M : List Addr) (F : Hp) (g : Nat → List PyData) (l : Addr) (i : Nat) (acc : List V) (H' : Hp) : Prop := ∃ F', Same F F' ∧ Fz (l :: M) F' H' ∧ DqAll F' acc (g i)
/-- between the turns -/
structure Lc (M : List Addr) (F H : Hp) (gg : Nat → List PyData) (l : Addr) (i : Nat) (acc : List V) (F' H' : Hp) : Prop where
  n : H l = none
  s : Same H H'
  a : H' l = some (.lst acc)
  len : acc.length ≤ i
  f : Same F F'
  z : Fz (l :: M) F' H'
  d : DqAll F' acc (gg i)
section
variable {K : PySem.W.Frag} {σ : L2.St} {H : Hp} {Q : VK} {g : TG} {tt : TT} {te : TE} {vs : List Nat} {J : It} {n : Nat} {G : Hp → Prop} {Y : Nat → Hp → V → Hp → Prop} {M : List Addr} {F : Hp} {gg : Nat → List PyData}
theorem lcW3 (w : Walk J n G Y) (R : Addr → Nat → List V → Hp → Prop) (hw : wipe σ vs = σ) (hG : ∀ H', Same H H' → G H') (h0 : ∀ Dl H', H Dl = none → Same H H' → H' Dl = some (.lst []) → R Dl 0 [] H')
    (hs : ∀ i x acc Dl H' H'', i < n → H Dl = none → Same H H' → H' Dl = some (.lst acc) → acc.length ≤ i → R Dl i acc H' → Y i H' x H'' → g x σ H'' fun σ2 H2 => wipe σ2 vs = σ ∧ tt σ2 H2 fun b H3 =>
      if b = true then te σ2 H3 (LcP H Dl (R Dl) (i + 1)) else LcI H Dl (R Dl) (i + 1) H3)
    (hd : ∀ acc Dl H', H Dl = none → Same H H' → H' Dl = some (.lst acc) → R Dl n acc H' → Q (.ref Dl) H') : LcQ σ g tt te vs Q J H := by
  intro Dl hD
  rw [hw]
  refine Eq.mp (by rw [hw]) (lc_it (σ := σ) (vs := vs) (g := g) (tt := tt) (te := te) (H1 := H) (D := Dl) (Qd := fun H' => Q (.ref Dl) H') w (LcI H Dl (R Dl)) ⟨[], Nat.le_refl _, Same.new hD, upd_same, h0 Dl _ hD (Same.new hD) upd_same⟩ (fun i H' _ ⟨_, _, e, _⟩ => hG H' e) (fun i x H' H'' hi ⟨acc, hl, e, ed, r⟩ y => ?_) fun H' ⟨acc, _, e, ed, r⟩ => hd acc Dl H' hD e ed r)
  rw [hw]
  exact hs i x acc Dl H' H'' hi hD e ed hl r y
theorem lcM (w : Walk J n G Y) (gg : Nat → List PyData) (z : Fz M F H) (g0 : gg 0 = []) (hw : wipe σ vs = σ) (hG : ∀ H', Same H H' → G H')
    (hs : ∀ i x l acc F' H' H'', i < n → Lc M F H gg l i acc F' H' → Y i H' x H'' → g x σ H'' fun σ2 H2 => wipe σ2 vs = σ ∧ tt σ2 H2 fun b H3 =>
      if b = true then te σ2 H3 (LcP H l (RM M F gg l) (i + 1)) else LcI H l (RM M F gg l) (i + 1) H3)
    (hd : ∀ l ys F' H', Ext M F H F' H' → H l = none → F' l = some (.lst ys) → DqAll F' ys (gg n) → Q (.ref l) H') : LcQ σ g tt te vs Q J H := by
  refine lcW3 w (RM M F gg) hw hG (fun l H' hl e h0 => ⟨F, Same.refl _, ?_, ?_⟩) (fun i x acc l H' H'' hi hl e ed hln ⟨F', f, zz, d⟩ y => hs i x l acc F' H' H'' hi ⟨hl, e, ed, hln, f, zz, d⟩ y) (fun acc l H' hl e ed ⟨F', f, zz, d⟩ => ?_)
  · exact (z.same e).z.open_ (z.fr hl) h0
  · rw [g0]
    exact .nil
  · obtain ⟨e1, q⟩ := zz.close ed (Ext.nm z hl)
    exact hd l acc _ H' ⟨f.trans e1.f, e, e1.z⟩ hl q (d.up e1.f)
/-- one element more -/
theorem lcE {l : Addr} {i : Nat} {acc : List V} {F' H' F4 H4 : Hp} {y : V} {d : PyData} (hi : i < 16777216) (c : Lc M F H gg l i acc F' H') (e : Ext (l :: M) F' H' F4 H4) (hy : Dq F4 y d) (hg : gg (i + 1) = gg i ++ [d]) : LcP H l (RM M F gg l) (i + 1) y H4 := by
  have s4 := c.s.trans e.s
  have a4 := e.s _ _ c.a
  exact ⟨acc, a4, szlt (by have := c.len; omega), acc ++ [y], by rw [List.length_append]; exact Nat.succ_le_succ c.len, Same.but But.upd c.n s4, upd_same, F4, c.f.trans e.f, e.z.but List.mem_cons_self But.upd ⟨_, upd_same⟩, by rw [hg]; exact (c.d.up e.f).app (.cons hy .nil)⟩
theorem lcN {l : Addr} {i : Nat} {acc : List V} {F' H' F4 H4 : Hp} (c : Lc M F H gg l i acc F' H') (e : Ext (l :: M) F' H' F4 H4) (hg : gg (i + 1) = gg i) : LcI H l (RM M F gg l) (i + 1) H4 :=
  lc_skip (c.s.trans e.s) (e.s _ _ c.a) c.len ⟨F4, c.f.trans e.f, e.z, by rw [hg]; exact c.d.up e.f⟩
end
section
variable {M : List Addr} {F H F' H' : Hp} {a : Addr} {o : HO} {v : V} {d : PyData} {xs : List V} {ds : List PyData}
theorem Ext.getZ (e : Ext M F H F' H') (h : F' a = some o) : H' a = some o := e.z.s _ _ h
theorem Ext.upZ (e : Ext M F H F' H') (h : Dq F' v d) : Dq H' v d := h.up e.z.s
theorem Ext.upsZ (e : Ext M F H F' H') (h : DqAll F' xs ds) : DqAll H' xs ds := h.up e.z.s
theorem dq_tup (h : H a = some (.tup xs)) (r : DqAll H xs ds) (hl : xs.length ≤ 1000) : Dq H (.ref a) (.tuple ds) := .tup h r (Nat.le_trans hl (by decide))
theorem dq_lst (h : H a = some (.lst xs)) (r : DqAll H xs ds) (hl : xs.length ≤ 1000000) : Dq H (.ref a) (.list ds) := .lst h r hl
theorem dqs_strs_inv : ∀ {zs : List Str} {xs : List V}, DqAll F xs (zs.map PyData.str) → xs = zs.map V.str
  | [], _, h => h.nil_inv
  | z :: zs, _, h => by
    obtain ⟨v, vs, rfl, h1, h2⟩ := h.cons_inv
    rw [h1.strV, dqs_strs_inv h2]
    rfl
theorem dqs_ints_inv : ∀ {zs : List Int} {xs : List V}, DqAll F xs (zs.map PyData.int) → xs = zs.map V.int
  | [], _, h => h.nil_inv
  | z :: zs, _, h => by
    obtain ⟨v, vs, rfl, h1, h2⟩ := h.cons_inv
    rw [h1.intV, dqs_ints_inv h2]
    rfl
theorem dqs_bools_inv : ∀ {zs : List Bool} {xs : List V}, DqAll F xs (zs.map PyData.bool) → xs = zs.map V.bl
  | [], _, h => h.nil_inv
  | z :: zs, _, h => by
    obtain ⟨v, vs, rfl, h1, h2⟩ := h.cons_inv
    rw [h1.boolV, dqs_bools_inv h2]
    rfl
theorem dqs_strs : ∀ {l : List Str}, (∀ z ∈ l, z.length ≤ 1000000) → DqAll H (l.map V.str) (l.map PyData.str)
  | [], _ => .nil
  | z :: l, h => .cons (.str z (h z List.mem_cons_self)) (dqs_strs fun z hz => h z (List.mem_cons_of_mem _ hz))
theorem dqs_ints : ∀ (l : List Int), DqAll H (l.map V.int) (l.map PyData.int)
  | [] => .nil
  | z :: l => .cons (.int z) (dqs_ints l)
end
/-! take, one more -/
section
variable {α β : Type}
theorem tk_map (f : α → β) {as : List α} {i : Nat} (h : i < as.length) : (as.take (i + 1)).map f = (as.take i).map f ++ [f as[i]] := by
  rw [← List.take_append_getElem h, List.map_append]
  rfl
theorem tk_fT (p : α → Bool) (f : α → β) {as : List α} {i : Nat} (h : i < as.length) (hp : p as[i] = true) : ((as.take (i + 1)).filter p).map f = ((as.take i).filter p).map f ++ [f as[i]] := by
  rw [← List.take_append_getElem h, List.filter_append, List.map_append, List.filter_cons, if_pos hp]
  rfl
theorem tk_fF (p : α → Bool) (f : α → β) {as : List α} {i : Nat} (h : i < as.length) (hp : p as[i] = false) : ((as.take (i + 1)).filter p).map f = ((as.take i).filter p).map f := by
  rw [← List.take_append_getElem h, List.filter_append, List.filter_cons, if_neg (by rw [hp]; exact Bool.false_ne_true), List.filter_nil, List.append_nil]
theorem rg_map (f : Nat → β) (i : Nat) : (List.range (i + 1)).map f = (List.range i).map f ++ [f i] := by
  rw [List.range_succ, List.map_append]
  rfl
end
/-! slices and sums of tuples -/
section
variable {K : PySem.W.Frag} {H : Hp} {Q : VK} {a b : Addr} {xs ys : List V}
theorem r_slT {lo hi : Option Int} (h : SqT K H a xs) (hn : ¬ (HT.sIx xs.length 0 lo = 0 ∧ HT.sIx xs.length xs.length hi = xs.length)) (q : ∀ r H', H r = none → Same H H' → H' r = some (.tup (cutV xs lo hi)) → Q (.ref r) H') : rSlP K (.ref a) lo hi H Q :=
  .inr (.inr ⟨a, xs, rfl, h, fun z => absurd z hn, fun _ p hp => q p _ hp (Same.new hp) upd_same⟩)
theorem r_addT (h1 : SqT K H a xs) (h2 : SqT K H b ys) (nx : xs ≠ []) (ny : ys ≠ []) (hl : xs.length + ys.length ≤ 1000000) (q : ∀ r H', H r = none → Same H H' → H' r = some (.tup (xs ++ ys)) → Q (.ref r) H') : rAddP K (.ref a) (.ref b) H Q :=
  .inr (.inr (.inr ⟨a, b, xs, ys, rfl, rfl, h1, h2, szl (by omega), fun z => absurd z nx, fun _ z => absurd z ny, fun _ _ p hp => q p _ hp (Same.new hp) upd_same⟩))
end
/-! new things that stand still -/
section
variable {K : PySem.W.Frag} {H : Hp} {Q : VK} {M : List Addr} {F : Hp} {xs : List V} {o : HO}
theorem fz_new {R : Addr → Hp → Prop} (z : Fz M F H) (q : ∀ p F' H', Ext M F H F' H' → Fz M F' H' → F' p = some o → R p H') : ∀ p H', H p = none → Same H H' → H' p = some o → R p H' := fun p H' n s g => by
  obtain ⟨e, f⟩ := z.new n s g
  exact q p _ H' e e.z f
theorem r_newTZ (z : Fz M F H) (q : ∀ p F' H', Ext M F H F' H' → Fz M F' H' → F' p = some (.tup xs) → Q (.ref p) H') (h : xs.length ≤ sizeLine) : NewT xs H Q := r_newT (fz_new z q) h
end
end Z

/-! the mathematics of fractions written and read -/
namespace M
open PySem L2 TL SX

/-- the codes of a whole number -/
def intL (n : Int) : List Nat := if n < 0 then 45 :: numL n.natAbs else numL n.natAbs
theorem int_S' (n : Int) : Str.ofString (toString n) = S (intL n) := by
  unfold intL
  cases n with
  | ofNat m =>
    rw [if_neg (by have : (0 : Int) ≤ Int.ofNat m := Int.natCast_nonneg m; omega)]
    exact num_S m
  | negSucc m =>
    rw [if_pos (Int.negSucc_lt_zero m)]
    refine ext_tl ?_
    have e : toString (Int.negSucc m) = "-" ++ toString (m + 1) := rfl
    rw [e, tl_ofString]
    have h2 := tl_num (m + 1)
    have e2 : toString (((m + 1 : Nat) : Int)) = toString (m + 1) := rfl
    rw [e2, tl_ofString] at h2
    rw [String.toList_append, List.map_append, h2]
    rfl
/-- a fraction's codes -/
def fracL (n : Int) (d : Nat) : List Nat := if d = 1 then intL n else intL n ++ 47 :: numL d

def digit (c : Nat) : Bool := decide (48 ≤ c ∧ c ≤ 57)
/-- the number that codes write, at most m of them, no nought ahead -/
def wholeIn (l : List Nat) (m : Nat) : Option Nat := if 1 ≤ l.length ∧ l.length ≤ m ∧ ¬ (1 < l.length ∧ l.head? = some 48) ∧ l.all digit = true then some (NumText.digitsVal l) else none
theorem fig_mem (c : Nat) : decide (c ∈ (Str.ofString "0123456789").cps.toList) = digit c := by
  have e : (Str.ofString "0123456789").cps.toList = [48, 49, 50, 51, 52, 53, 54, 55, 56, 57] := by decide +kernel
  rw [e]
  unfold digit
  rw [decide_eq_decide]
  simp only [List.mem_cons, List.not_mem_nil, or_false]
  omega
theorem numL_head : ∀ (n : Nat), 10 ≤ n → (numL n).head? ≠ some 48 := by
  intro n
  induction n using Nat.strongRecOn with
  | _ n ih =>
    intro h
    rw [numL_step h]
    by_cases h2 : n / 10 < 10
    · rw [numL_lt h2]
      intro z
      have : 48 + n / 10 = 48 := Option.some.inj z
      omega
    · intro z
      refine ih (n / 10) (by omega) (by omega) ?_
      cases e : numL (n / 10) with
      | nil => exact absurd e (numL_ne _)
      | cons a r =>
        rw [e] at z
        exact z
theorem numL_all (n : Nat) : (numL n).all digit = true := by
  rw [List.all_eq_true]
  intro c hc
  have := numL_digits n c hc
  exact decide_eq_true this
theorem wholeIn_num {n m : Nat} (h : (numL n).length ≤ m) : wholeIn (numL n) m = some n := by
  unfold wholeIn
  rw [if_pos, numL_val]
  refine ⟨?_, h, ?_, numL_all n⟩
  · cases e : numL n with
    | nil => exact absurd e (numL_ne _)
    | cons a r => simp
  · rintro ⟨h1, h2⟩
    by_cases h3 : n < 10
    · rw [numL_lt h3] at h1
      simp at h1
    · exact numL_head n (by omega) h2
def sgn (neg : Bool) (a : Nat) : Int := if neg then -(a : Int) else a
/-- the fraction that codes write -/
def fracOf (neg : Bool) (nums : List (Option Nat)) : Option (Int × Nat) := match nums with
  | [some a] => if neg = true ∧ a = 0 then none else some (sgn neg a, 1)
  | [some a, some b] => if b < 2 ∨ neg = true ∧ a = 0 then none else if Nat.gcd b a = 1 then some (sgn neg a, b) else none
  | _ => none
def isNeg (l : List Nat) : Bool := decide (l.head? = some 45)
def figs (l : List Nat) : List Nat := if isNeg l = true then l.tail else l
def numsIn (l : List Nat) (m : Nat) : List (Option Nat) := (spl [47] 0 [] (figs l)).map fun p => wholeIn p m
def fracIn (l : List Nat) (m : Nat) : Option (Int × Nat) := fracOf (isNeg l) (numsIn l m)
theorem intL_neg (n : Int) : isNeg (intL n) = decide (n < 0) := by
  unfold isNeg intL
  rw [decide_eq_decide]
  by_cases h : n < 0
  · rw [if_pos h]
    simp [h]
  · rw [if_neg h]
    constructor
    · intro z
      have hm : 45 ∈ numL n.natAbs := by
        cases e : numL n.natAbs with
        | nil =>
          rw [e] at z
          cases z
        | cons a r =>
          rw [e] at z
          have : a = 45 := Option.some.inj z
          rw [this]
          exact List.mem_cons_self
      exact absurd hm (numL_free (by omega))
    · intro z
      exact absurd z h
theorem intL_figs (n : Int) : figs (intL n) = numL n.natAbs := by
  unfold figs
  rw [intL_neg]
  unfold intL
  by_cases h : n < 0
  · rw [if_pos (decide_eq_true h), if_pos h]
    rfl
  · rw [if_neg (by simpa using h), if_neg h]
theorem isNeg_app {l r : List Nat} (h : l ≠ []) : isNeg (l ++ r) = isNeg l := by
  cases l with
  | nil => exact absurd rfl h
  | cons a l => rfl
theorem figs_app {l r : List Nat} (h : l ≠ []) : figs (l ++ r) = figs l ++ r := by
  unfold figs
  rw [isNeg_app h]
  by_cases c : isNeg l = true
  · rw [if_pos c, if_pos c]
    cases l with
    | nil => exact absurd rfl h
    | cons a l => rfl
  · rw [if_neg c, if_neg c]
theorem intL_ne (n : Int) : intL n ≠ [] := by
  unfold intL
  split
  · simp
  · exact numL_ne _
theorem sgn_abs (n : Int) : sgn (decide (n < 0)) n.natAbs = n := by
  unfold sgn
  by_cases h : n < 0
  · rw [if_pos (decide_eq_true h)]
    omega
  · rw [if_neg (by simpa using h)]
    omega
/-- what is written is read -/
theorem frac_back {n : Int} {d m : Nat} (hn : (numL n.natAbs).length ≤ m) (hd : (numL d).length ≤ m) (h0 : 0 < d) (hg : Nat.gcd d n.natAbs = 1) : fracIn (fracL n d) m = some (n, d) := by
  unfold fracIn fracL numsIn
  by_cases h1 : d = 1
  · rw [if_pos h1, intL_neg, intL_figs, spl_last1 (numL_free (by omega))]
    show fracOf _ [wholeIn ([] ++ numL n.natAbs) m] = _
    rw [List.nil_append, wholeIn_num hn]
    show (if _ then _ else _) = _
    rw [if_neg, sgn_abs, h1]
    rintro ⟨a, b⟩
    have := of_decide_eq_true a
    omega
  · rw [if_neg h1, isNeg_app (intL_ne n), intL_neg, figs_app (intL_ne n), intL_figs]
    have e : spl [47] 0 [] (numL n.natAbs ++ 47 :: numL d) = [numL n.natAbs, numL d] := by
      have a := spl_part1 (s := 47) (S := []) (p := numL n.natAbs) (rest := numL d) (acc := []) (numL_free (by omega))
      rw [spl_last1 (numL_free (by omega))] at a
      simpa using a
    rw [e]
    show fracOf _ [wholeIn (numL n.natAbs) m, wholeIn (numL d) m] = _
    rw [wholeIn_num hn, wholeIn_num hd]
    show (if _ then _ else _) = _
    rw [if_neg, if_pos hg, sgn_abs]
    rintro (a | ⟨a, b⟩)
    · omega
    · have := of_decide_eq_true a
      omega
theorem len60 {n : Nat} (h : n < 10 ^ 60) : (numL n).length ≤ 60 := numL_len (by decide) h
/-! the greatest common divisor, by steps -/
theorem gcd_step {x y : Nat} (h : 0 < y) : Nat.gcd y (x % y) = Nat.gcd x y := by
  rw [Nat.gcd_comm x y, Nat.gcd_rec y x, Nat.gcd_comm]
theorem lowest_gcd {t b : Nat} (h : 0 < b) : Nat.gcd (b / Nat.gcd t b) (t / Nat.gcd t b) = 1 := by
  have g0 : 0 < Nat.gcd t b := Nat.gcd_pos_of_pos_right _ h
  have h2 := Nat.gcd_div (Nat.gcd_dvd_right t b) (Nat.gcd_dvd_left t b)
  rw [Nat.gcd_comm b t, Nat.div_self g0] at h2
  exact h2
/-! figures, from the end -/
theorem fig_at {d : Nat} (h : d < 10) : atI (Str.ofString "0123456789").cps.toList (d : Int) = some (48 + d) := by
  have e : (Str.ofString "0123456789").cps.toList = [48, 49, 50, 51, 52, 53, 54, 55, 56, 57] := by decide +kernel
  rw [e]
  refine atI_nat ?_
  match d, h with
  | 0, _ => rfl
  | 1, _ => rfl
  | 2, _ => rfl
  | 3, _ => rfl
  | 4, _ => rfl
  | 5, _ => rfl
  | 6, _ => rfl
  | 7, _ => rfl
  | 8, _ => rfl
  | 9, _ => rfl
/-- texts by codes -/
theorem S_app (a b : List Nat) : S a ++ S b = S (a ++ b) := ext_tl (by rw [tl_append])
theorem S_len (a : List Nat) : (S a).length = a.length := by
  show a.toArray.size = a.length
  simp
theorem S_inj {a b : List Nat} (h : S a = S b) : a = b := by
  have := congrArg tl h
  exact this
theorem S_tl (z : Str) : z = S (tl z) := (mk_tl z).symm
end M

/-! orders: the mathematics -/
namespace M
open PySem L2 Z
def intOf : PyData → Int
  | .int i => i
  | _ => 0
/-- each number below m, once -/
def ordL (m : Nat) (ns : List Int) : Bool := decide (ns.length = m) && (List.range m).all fun j : Nat => decide ((j : Int) ∈ ns)
def rgL (m : Nat) : List Int := (List.range m).map fun j : Nat => (j : Int)
theorem rgL_nodup (m : Nat) : (rgL m).Nodup := by
  unfold rgL
  refine List.Pairwise.map _ (fun a b h e => h (Int.ofNat.inj e)) List.nodup_range
theorem rgL_sorted (m : Nat) : (rgL m).Pairwise (· ≤ ·) := by
  unfold rgL
  refine List.Pairwise.map _ (fun a b h => ?_) List.pairwise_lt_range
  omega
theorem sorted_eq : ∀ {l r : List Int}, l.Perm r → l.Pairwise (· ≤ ·) → r.Pairwise (· ≤ ·) → l = r
  | [], r, p, _, _ => (List.nil_perm.mp p).symm
  | a :: l, [], p, _, _ => absurd p.symm (by simp)
  | a :: l, b :: r, p, h1, h2 => by
    have ha : a ∈ b :: r := p.mem_iff.mp List.mem_cons_self
    have hb : b ∈ a :: l := p.mem_iff.mpr List.mem_cons_self
    have e : a = b := by
      rw [List.pairwise_cons] at h1 h2
      rcases List.mem_cons.mp ha with rfl | ha
      · rfl
      · rcases List.mem_cons.mp hb with rfl | hb
        · rfl
        · have := h1.1 b hb
          have := h2.1 a ha
          omega
    subst e
    rw [sorted_eq (List.Perm.cons_inv p) (List.pairwise_cons.mp h1).2 (List.pairwise_cons.mp h2).2]
theorem perm_sub : ∀ {r l : List Int}, r.Nodup → (∀ z ∈ r, z ∈ l) → l.length ≤ r.length → l.Perm r
  | [], l, _, _, h => by
    have : l = [] := List.length_eq_zero_iff.mp (by simpa using h)
    rw [this]
  | a :: r, l, hn, hs, h => by
    have ha : a ∈ l := hs a List.mem_cons_self
    obtain ⟨h1, h2⟩ := List.nodup_cons.mp hn
    have p := List.perm_cons_erase ha
    have hl := p.length_eq
    rw [List.length_cons] at hl h
    refine p.trans (List.Perm.cons a (perm_sub h2 (fun z hz => ?_) (by omega)))
    have hza : z ≠ a := fun e => h1 (e ▸ hz)
    exact (List.mem_erase_of_ne hza).mpr (hs z (List.mem_cons_of_mem _ hz))
theorem ord_perm {m : Nat} {ns : List Int} (h : ordL m ns = true) : ns.Perm (rgL m) := by
  obtain ⟨h1, h2⟩ := Bool.and_eq_true_iff.mp h
  have hl : ns.length = m := of_decide_eq_true h1
  refine perm_sub (rgL_nodup m) (fun z hz => ?_) ?_
  · unfold rgL at hz
    obtain ⟨j, hj, rfl⟩ := List.mem_map.mp hz
    exact of_decide_eq_true (List.all_eq_true.mp h2 j hj)
  · unfold rgL
    rw [List.length_map, List.length_range, hl]
    exact Nat.le_refl _
theorem perm_ord {m : Nat} {ns : List Int} (h : ns.Perm (rgL m)) : ordL m ns = true := by
  have hl := h.length_eq
  unfold rgL at hl
  rw [List.length_map, List.length_range] at hl
  unfold ordL
  rw [decide_eq_true hl, Bool.true_and, List.all_eq_true]
  intro j hj
  refine decide_eq_true (h.mem_iff.mpr ?_)
  unfold rgL
  exact List.mem_map.mpr ⟨j, hj, rfl⟩
/-- what sorted tells -/
theorem ord_sorted {m : Nat} {ns ns' : List Int} (p : ns'.Perm ns) (s : ns'.Pairwise (· ≤ ·)) : decide (ns' = rgL m) = ordL m ns := by
  rw [Bool.eq_iff_iff, decide_eq_true_iff]
  constructor
  · intro e
    exact perm_ord ((e ▸ p.symm) : ns.Perm (rgL m))
  · intro h
    exact sorted_eq (p.trans (ord_perm h)) s (rgL_sorted m)
theorem rgV_eq (m : Nat) : rgV 0 (m : Int) = (rgL m).map V.int := by
  unfold rgV rgL
  rw [List.map_map]
  have e : ((m : Int) - 0).toNat = m := by omega
  rw [e]
  refine List.map_congr_left fun j _ => ?_
  show V.int (0 + (j : Int)) = V.int (j : Int)
  rw [Int.zero_add]
end M

/-! orders as lists of Nat; things put by an order -/
namespace M
open PySem L2 Z
def ofN (js : List Nat) : List Int := js.map fun j : Nat => (j : Int)
def vsN (js : List Nat) : List V := js.map fun j : Nat => V.int (j : Int)
theorem vsN_ofN (js : List Nat) : (ofN js).map V.int = vsN js := by
  unfold ofN vsN
  rw [List.map_map]
  rfl
theorem ord_nat {m : Nat} {ns : List Int} (h : ordL m ns = true) : ∃ js : List Nat, ns = ofN js ∧ js.Perm (List.range m) := by
  have p := ord_perm h
  refine ⟨ns.map Int.toNat, ?_, ?_⟩
  · unfold ofN
    rw [List.map_map]
    refine (List.map_id ns).symm.trans (List.map_congr_left fun z hz => ?_)
    have hz2 := p.mem_iff.mp hz
    unfold rgL at hz2
    obtain ⟨j, _, rfl⟩ := List.mem_map.mp hz2
    show (j : Int) = ((j : Int).toNat : Int)
    omega
  · have q := p.map Int.toNat
    unfold rgL at q
    rw [List.map_map] at q
    have e : (Int.toNat ∘ fun j : Nat => (j : Int)) = id := by
      funext j
      simp
    rw [e, List.map_id] at q
    exact q
theorem nat_ord {m : Nat} {js : List Nat} (h : js.Perm (List.range m)) : ordL m (ofN js) = true := perm_ord (h.map _)
theorem perm_sub' {α : Type} [DecidableEq α] : ∀ {r l : List α}, r.Nodup → (∀ z ∈ r, z ∈ l) → l.length ≤ r.length → l.Perm r
  | [], l, _, _, h => by
    have : l = [] := List.length_eq_zero_iff.mp (by simpa using h)
    rw [this]
  | a :: r, l, hn, hs, h => by
    have ha : a ∈ l := hs a List.mem_cons_self
    obtain ⟨h1, h2⟩ := List.nodup_cons.mp hn
    have p := List.perm_cons_erase ha
    have hl := p.length_eq
    rw [List.length_cons] at hl h
    refine p.trans (List.Perm.cons a (perm_sub' h2 (fun z hz => ?_) (by omega)))
    have hza : z ≠ a := fun e => h1 (e ▸ hz)
    exact (List.mem_erase_of_ne hza).mpr (hs z (List.mem_cons_of_mem _ hz))
section
variable {m : Nat} {js : List Nat} (p : js.Perm (List.range m))
include p
theorem pr_len : js.length = m := by rw [p.length_eq, List.length_range]
theorem pr_nd : js.Nodup := p.nodup_iff.mpr List.nodup_range
theorem pr_lt {j : Nat} (h : j ∈ js) : j < m := List.mem_range.mp (p.mem_iff.mp h)
theorem pr_mem {j : Nat} (h : j < m) : j ∈ js := p.mem_iff.mpr (List.mem_range.mpr h)
end
/-- i things put -/
def putN (xs : List V) (js : List Nat) : Nat → List V
  | 0 => xs
  | i + 1 => (putN xs js i).set (js.getD i 0) (xs.getD i .non)
theorem putN_len (xs : List V) (js : List Nat) : ∀ i, (putN xs js i).length = xs.length
  | 0 => rfl
  | i + 1 => by rw [putN, List.length_set, putN_len xs js i]
theorem putN_get {xs : List V} {js : List Nat} (nd : js.Nodup) (hb : ∀ j ∈ js, j < xs.length) (hl : js.length ≤ xs.length) : ∀ i, i ≤ js.length → ∀ k, (hk : k < i) → (h2 : k < js.length) → (putN xs js i)[js[k]]? = xs[k]?
  | 0, _, k, hk, _ => absurd hk (Nat.not_lt_zero _)
  | i + 1, hi, k, hk, h2 => by
    have e : js.getD i 0 = js[i] := by
      rw [List.getD_eq_getElem?_getD, List.getElem?_eq_getElem (by omega)]
      rfl
    rw [putN, e]
    by_cases hki : k = i
    · subst hki
      have h3 := hb js[k] (List.getElem_mem h2)
      rw [List.getElem?_set_self (by rw [putN_len]; exact h3), List.getD_eq_getElem?_getD, List.getElem?_eq_getElem (by omega)]
      rfl
    · have hne : js[i] ≠ js[k] := fun e => hki (nd_inj nd (by omega) h2 e).symm
      rw [List.getElem?_set_ne hne]
      exact putN_get nd hb hl i (by omega) k (by omega) h2
/-- all put -/
def putJ (xs : List V) (js : List Nat) : List V := putN xs js js.length
theorem putJ_len (xs : List V) (js : List Nat) : (putJ xs js).length = xs.length := putN_len xs js _
theorem putJ_get {xs : List V} {js : List Nat} (p : js.Perm (List.range xs.length)) (k : Nat) (hk : k < js.length) : (putJ xs js)[js[k]]? = xs[k]? := putN_get (pr_nd p) (fun j hj => pr_lt p hj) (by rw [pr_len p]; exact Nat.le_refl _) _ (Nat.le_refl _) k hk hk
theorem put_back {xs : List V} {js : List Nat} (p : js.Perm (List.range xs.length)) : (js.map fun j => (putJ xs js).getD j .non) = xs := by
  refine List.ext_getElem? fun i => ?_
  rw [List.getElem?_map]
  have hl := pr_len p
  by_cases hi : i < js.length
  · rw [List.getElem?_eq_getElem hi, Option.map_some, List.getD_eq_getElem?_getD, putJ_get p i hi, List.getElem?_eq_getElem (by omega)]
    rfl
  · rw [List.getElem?_eq_none (by omega), List.getElem?_eq_none (by omega)]
    rfl
/-- the order's other way about -/
def invJ (js : List Nat) : List Nat := (List.range js.length).map fun q => js.idxOf q
theorem invJ_len (js : List Nat) : (invJ js).length = js.length := by
  unfold invJ
  rw [List.length_map, List.length_range]
section
variable {m : Nat} {js : List Nat} (p : js.Perm (List.range m))
include p
theorem inv_at {q : Nat} (h : q < m) : ∃ h1 : js.idxOf q < js.length, js[js.idxOf q] = q := ⟨List.idxOf_lt_length_of_mem (pr_mem p h), List.getElem_idxOf (List.idxOf_lt_length_of_mem (pr_mem p h))⟩
theorem inv_perm : (invJ js).Perm (List.range m) := by
  have hl := pr_len p
  refine (perm_sub' (r := invJ js) (l := List.range m) ?_ ?_ ?_).symm
  · unfold invJ
    rw [hl]
    refine List.Pairwise.map (R := fun a b => a ∈ List.range m ∧ b ∈ List.range m ∧ a ≠ b) _ (fun a b h e => ?_) ?_
    · obtain ⟨ha, hb, hn⟩ := h
      obtain ⟨a1, a2⟩ := inv_at p (List.mem_range.mp ha)
      obtain ⟨b1, b2⟩ := inv_at p (List.mem_range.mp hb)
      apply hn
      rw [← a2, ← b2]
      have e2 : js.idxOf a = js.idxOf b := e
      exact getElem_congr_idx e2
    · refine List.Pairwise.imp_of_mem (R := (· ≠ ·)) (fun ha hb h => ⟨ha, hb, h⟩) ?_
      exact List.nodup_range
  · intro z hz
    unfold invJ at hz
    obtain ⟨q, hq, rfl⟩ := List.mem_map.mp hz
    rw [List.mem_range] at hq ⊢
    obtain ⟨h1, _⟩ := inv_at p (q := q) (by omega)
    omega
  · rw [invJ_len, List.length_range, hl]
    exact Nat.le_refl _
end
theorem put_inv {xs : List V} {js : List Nat} (p : js.Perm (List.range xs.length)) : putJ (putJ xs js) (invJ js) = xs := by
  have hl := pr_len p
  have pi : (invJ js).Perm (List.range (putJ xs js).length) := by
    rw [putJ_len]
    exact inv_perm p
  refine List.ext_getElem? fun i => ?_
  by_cases hi : i < xs.length
  · -- i = inv[k] with k = js[i]
    have hi2 : i < js.length := by omega
    have hk : js[i] < xs.length := pr_lt p (List.getElem_mem hi2)
    have hk2 : js[i] < (invJ js).length := by rw [invJ_len]; omega
    have e : (invJ js)[js[i]] = i := by
      have : (invJ js)[js[i]] = js.idxOf js[i] := by
        have e : (invJ js)[js[i]]? = some (js.idxOf js[i]) := by
          unfold invJ
          rw [List.getElem?_map, List.getElem?_range (by omega)]
          rfl
        rw [List.getElem?_eq_getElem hk2] at e
        exact Option.some.inj e
      rw [this]
      obtain ⟨h1, h2⟩ := inv_at p hk
      exact nd_inj (pr_nd p) h1 hi2 h2
    have g := putJ_get pi js[i] hk2
    rw [e, putJ_get p i hi2] at g
    exact g
  · rw [List.getElem?_eq_none (by rw [putJ_len, putJ_len]; omega), List.getElem?_eq_none (by omega)]
end M

/-! Zh: dict(pairs); join of nothing between; the place of a text. -/
namespace Z
open PySem PySem.Spec PyProof.Rows L2
def cDictP (K : PySem.W.Frag) : List V → Hp → VK → Prop := fun xs H Q => ∃ (a : Addr) (ps : List Addr) (kvs : List (Key × V)), xs = [.ref a] ∧ SqL K H a (ps.map V.ref) ∧ Paired (fun p kv => SqT K H p [kV kv.1, kv.2]) ps kvs ∧ ∀ p, H p = none → Q (.ref p) (upd H p (.dK (mergeK [] kvs)))
section
variable {X : Cx}
theorem k_dictP (K : PySem.W.Frag) (hc : X.calm = true) (hK : X.K = K := by rfl) : CallR X (.type "dict") (cDictP K) := hK ▸ call_dictP hc
end
theorem merge_val : ∀ (kvs acc : List (Key × V)) (k : Key), (kvs.map (·.1)).Nodup → valV (mergeK acc kvs) k = match valV kvs k with | some v => some v | none => valV acc k
  | [], acc, k, _ => rfl
  | p :: r, acc, k, h => by
    rw [List.map_cons, List.nodup_cons] at h
    have e : mergeK acc (p :: r) = mergeK (putK acc p.1 p.2) r := rfl
    rw [e, merge_val r _ k h.2, valV_put]
    by_cases hk : k = p.1
    · subst hk
      have hn : valV r p.1 = none := by
        unfold valV
        rw [Option.map_eq_none_iff, List.find?_eq_none]
        intro x hx hx2
        have : x.1 = p.1 := of_decide_eq_true hx2
        exact h.1 (this ▸ List.mem_map.mpr ⟨x, hx, rfl⟩)
      rw [hn, valV_pos rfl]
      simp
    · rw [if_neg hk]
      have hp : valV (p :: r) k = valV r k := by
        unfold valV
        rw [List.find?_cons, decide_eq_false (fun z => hk z.symm)]
      rw [hp]
theorem merge_at {kvs : List (Key × V)} (h : (kvs.map (·.1)).Nodup) {i : Nat} (hi : i < kvs.length) : valV (mergeK [] kvs) kvs[i].1 = some kvs[i].2 := by
  rw [merge_val kvs [] _ h]
  have e : valV kvs kvs[i].1 = some kvs[i].2 := by
    unfold valV
    have : (kvs.find? fun kv => decide (kv.1 = kvs[i].1)) = some kvs[i] := by
      rw [List.find?_eq_some_iff_getElem]
      refine ⟨decide_eq_true rfl, i, hi, rfl, fun j hj => ?_⟩
      have n : kvs[j].1 ≠ kvs[i].1 := fun q => by
        have := nd_inj h (i := j) (j := i) (by rw [List.length_map]; omega) (by rw [List.length_map]; exact hi) (by rw [List.getElem_map, List.getElem_map]; exact q)
        omega
      rw [decide_eq_false n]
      rfl
    rw [this]
    rfl
  rw [e]
section
variable {K : PySem.W.Frag} {H : Hp} {Q : VK}
theorem r_dictP {a : Addr} {ps : List Addr} {kvs : List (Key × V)} (h : SqL K H a (ps.map V.ref)) (hp : Paired (fun p kv => SqT K H p [kV kv.1, kv.2]) ps kvs) (q : ∀ p H', H p = none → Same H H' → H' p = some (.dK (mergeK [] kvs)) → Q (.ref p) H') : cDictP K [.ref a] H Q :=
  ⟨a, ps, kvs, rfl, h, hp, fun p hp => q p _ hp (Same.new hp) upd_same⟩
theorem r_indexS {a : Addr} {zs : List Str} {j : Nat} {z : Str} (h : SqL K H a (zs.map V.str)) (nd : zs.Nodup) (hj : j < zs.length) (e : zs[j] = z) (q : Q (.int (j : Nat)) H) : rIndex K (.ref a) [.str z] H Q := by
  subst e
  refine ⟨a, _, _, j, .str zs[j], rfl, rfl, h, rfl, ?_, ?_, ?_, ?_, q⟩
  · rw [List.all_map]
    exact List.all_eq_true.mpr fun _ _ => rfl
  · rw [List.getElem?_map, List.getElem?_eq_getElem hj]
    rfl
  · simp [eqV]
  · intro m z' hm hz
    rw [List.getElem?_map, List.getElem?_eq_getElem (by omega)] at hz
    cases hz
    have : zs[m] ≠ zs[j] := fun e => by
      have := nd_inj nd (by omega) hj e
      omega
    simpa [eqV] using this
theorem joinL_one : ∀ l : List Nat, TL.joinL [] (l.map fun c => [c]) = l
  | [] => rfl
  | [c] => rfl
  | c :: d :: r => by
    have := joinL_one (d :: r)
    show [c] ++ ([] ++ TL.joinL [] ((d :: r).map fun c => [c])) = _
    rw [this]
    rfl
/-- ''.join of letters -/
theorem r_join1 {p : Addr} {l : List Nat} (h : SqL K H p ((l.map fun c => SX.S [c]).map V.str)) (hl : l.length ≤ 1000000) (q : Q (.str (SX.S l)) H) : mJoin K (.str (SX.S [])) [.ref p] H Q := by
  refine ⟨SX.S [], p, l.map fun c => SX.S [c], rfl, rfl, .inl h, ?_, ?_⟩
  · rw [List.map_map]
    have e : (l.map (Str.length ∘ fun c => SX.S [c])).sum = l.length := by
      clear h hl q
      induction l with
      | nil => rfl
      | cons c l ih =>
        rw [List.map_cons, List.sum_cons, ih, List.length_cons]
        show (SX.S [c]).length + l.length = _
        have : (SX.S [c]).length = 1 := rfl
        omega
    have e0 : (SX.S []).length = 0 := rfl
    rw [e, e0, Nat.mul_zero]
    omega
  · have e : Txt.join (SX.S []) (l.map fun c => SX.S [c]) = SX.S l := by
      have := SX.join_S [] (l.map fun c => [c])
      rw [List.map_map] at this
      rw [show (l.map fun c => SX.S [c]) = l.map (SX.S ∘ fun c => [c]) from rfl, this, joinL_one]
    rw [e]
    exact q
end
end Z

/-! Zi: xs[::k], k an expression that is 1 or -1. -/
namespace Z
open PySem PySem.Spec PyProof.Rows L2
theorem pick1 (items : Array Value) : slicePick items none none (some 1) = items := by
  have e : slicePick items none none (some 1) = slicePick items (some ((0 : Nat) : Int)) none none := by
    unfold slicePick
    have h : sliceBounds none none (some 1) items.size = sliceBounds (some ((0 : Nat) : Int)) none none items.size := by
      simp [sliceBounds]
      omega
    rw [h]
  rw [e, slicePick_from items 0 (Nat.zero_le _)]
  simp
def StepW (K : PySem.W.Frag) (x y : V) (H : Hp) (Q : VK) : Prop := ∃ a xs, x = .ref a ∧ SqL K H a xs ∧ ((y = .int 1 ∧ ∀ p, H p = none → Q (.ref p) (upd H p (.lst xs))) ∨ (y = .int (-1) ∧ ∀ p, H p = none → Q (.ref p) (upd H p (.lst xs.reverse))))
def tStepS (K : PySem.W.Frag) (te ts : TE) : TE := fun σ H Q => te σ H fun x H1 => ts σ H1 fun y H2 => StepW K x y H2 Q
theorem pe_stepS (K : PySem.W.Frag) {X : Cx} {e st : Expr} {te ts : TE} {sp pos : Pos} (he : PE X e te) (hs : PE X st ts) (hK : X.K = K := by rfl) : PE X (.Subscript e (.Slice none none (some st) sp) pos) (tStepS K te ts) := by
  subst hK
  refine ⟨fun pins s σ H Q I h => Subscript_ (thn (he.run pins s σ H _ I h) fun v t1 ⟨x, H1, J1, rx, w⟩ => ?_)⟩
  refine wpAny_Slice (thn (po_none.run pins t1 σ H1 (fun o G => o = none ∧ G = H1) J1 ⟨rfl, rfl⟩) fun v1 t2 ⟨o1, G1, J2, p1, q1, q2⟩ => ?_)
  subst q1 q2
  refine thn (po_none.run pins t2 σ G1 (fun o G => o = none ∧ G = G1) J2 ⟨rfl, rfl⟩) fun v2 t3 ⟨o2, G2, J3, p2, q1, q2⟩ => ?_
  subst q1 q2
  rw [evalPart_some]
  refine thn (hs.run pins t3 σ G2 _ J3 w) fun v3 t4 ⟨y, G3, J4, ry, w3⟩ => ?_
  obtain ⟨a, xs, rfl, hx, hw⟩ := w3
  cases rx
  have J5 : Inv X pins σ G3 { t4 with heap := t4.heap.push { cls := .type "slice", data := .fields #[v1, v2, v3] } } := J4.kept (t' := t4.toks) fun b ob z => Heap.get?_push_of_some _ z
  obtain ⟨its, r, ht, hz⟩ := J5.list hx
  have hl := r.length
  show wpAny (model X.prog X.w) X.A (subscriptTail e (.Slice none none (some st) sp) (.ref a) (.ref t4.heap.objs.size)) (EP X pins σ Q) X.xe { t4 with heap := t4.heap.push { cls := .type "slice", data := .fields #[v1, v2, v3] } }
  refine tail_any (ops := [.ref a, .ref t4.heap.objs.size]) ht.isList.typeIs (PySem.slot_list_getitem.lookup) ?_ (by with_unfolding_all rfl)
  rcases hw with ⟨rfl, q⟩ | ⟨rfl, q⟩
  · obtain ⟨tk, rfl⟩ := ry
    refine wpAny_getItem_list_slice (st := some 1) ht.isList (Heap.IsSliceOf.new _ v1 v2 _) p1 p2 (.int 1 tk) (by decide) ?_ (by rw [List.size_toArray]; omega)
    rw [pick1]
    refine ⟨.ref _, _, J5.laid (t' := t4.toks) (o := .lst xs) (fun b ob z => Heap.get?_push_of_some _ z) (Nat.le_refl _) ?_, rfl, q _ (J5.hok.fresh (Nat.le_refl _))⟩
    exact ⟨hz, _, 0, r, Heap.get?_push_size _ rfl⟩
  · obtain ⟨tk, rfl⟩ := ry
    refine wpAny_getItem_list_slice (st := some (-1)) ht.isList (Heap.IsSliceOf.new _ v1 v2 _) p1 p2 (.int (-1) tk) (by decide) ?_ (by rw [List.size_toArray]; omega)
    rw [PySem.W.krv_pick]
    refine ⟨.ref _, _, J5.laid (t' := t4.toks) (o := .lst xs.reverse) (fun b ob z => Heap.get?_push_of_some _ z) (Nat.le_refl _) ?_, rfl, q _ (J5.hok.fresh (Nat.le_refl _))⟩
    exact ⟨by rw [List.length_reverse]; exact hz, _, 0, r.reverse, Heap.get?_push_size _ rfl⟩
theorem r_stepS {K : PySem.W.Frag} {σ : L2.St} {H : Hp} {Q : VK} {te ts : TE} (q : te σ H fun x H1 => ts σ H1 fun y H2 => StepW K x y H2 Q) : tStepS K te ts σ H Q := q
end Z

/-! Zo: own classes: objects made, fields, methods (that may raise, too). -/
namespace Z
open PySem PySem.Spec PyProof.Rows L2
/-! ### methods, packed -/
structure Mf (P : Program) (w : World) (K : PySem.W.Frag) (mg : Str → Option Value) (base : Heap) (CX : CXT) (k : Nat) (C : Addr) (m : Str) (sp : Sp) : Prop where
  ex : ∃ (f : Addr) (fd : FuncData) (ps : List Str), FnOk P w K mg base CX k f fd ps sp ∧ Meth K C m f ∧ Binds K fd ps []
abbrev M0 (P : Program) (w : World) (K : PySem.W.Frag) (mg : Str → Option Value) (base : Heap) (k : Nat) (C : Addr) (m : Str) (sp : Sp) : Prop := Mf P w K mg base CX0 k C m sp
abbrev ME (P : Program) (w : World) (K : PySem.W.Frag) (mg : Str → Option Value) (base : Heap) (k : Nat) (C : Addr) (m : Str) (sp : Sp) : Prop := Mf P w K mg base (L2.CX P w) k C m sp
/-- an object made: its __init__ -/
structure If (P : Program) (w : World) (K : PySem.W.Frag) (mg : Str → Option Value) (base : Heap) (k : Nat) (C : Addr) (sp : Sp) : Prop where
  ex : ∃ (f : Addr) (fd : FuncData) (ps : List Str), FnOk P w K mg base CX0 k f fd ps sp ∧ Mk K C f ∧ Binds K fd ps []
section
variable {X : Cx} {k j : Nat} {x m : Str} {C : Addr} {sp : Sp} {p apos pos : Pos} {o e : Expr} {es : List Expr} {ta : TE} {t : TA}
theorem pe_m {pl : Sem Bool} (c : Mf X.prog X.w X.K X.mg X.base CX0 k C m sp) (l : Cls X.K C) (hr : Room j X.A) (hk : k ≤ j) (he : PE X o ta) (ha : PA X (e :: es) t)
    (hst : starEach (e :: es) X.env = (false, eval e X.env) :: starEach es X.env := by rfl) (hpl : (backTo pos (starEach es X.env)).any (·.1) = false := by rfl)
    (ht : eval (.Call (.Attribute o m apos) (e :: es) [] pos) X.env = (do
      let ov ← eval o X.env
      standAt apos.atName
      let (f, first) ← holding [ov] (getMethod ov m pl)
      callWith pos f first (backTo pos (starEach (e :: es) X.env)) (backToKw pos (keywordEach [] X.env))) := by rfl) :
    PE X (.Call (.Attribute o m apos) (e :: es) [] pos) (tMeth C m sp [] E0 ta t) := by
  obtain ⟨f, fd, ps, F, M, b⟩ := c.ex
  exact pe_meth he l M F (hr.mono hk) b .nil pass0 ha hst hpl ht
theorem pe_mz {pl : Sem Bool} (c : Mf X.prog X.w X.K X.mg X.base CX0 k C m sp) (l : Cls X.K C) (hr : Room j X.A) (hk : k ≤ j) (he : PE X o ta)
    (ht : eval (.Call (.Attribute o m apos) [] [] pos) X.env = (do
      let ov ← eval o X.env
      standAt apos.atName
      let (f, first) ← holding [ov] (getMethod ov m pl)
      callWith pos f first (backTo pos (starEach [] X.env)) (backToKw pos (keywordEach [] X.env))) := by rfl) :
    PE X (.Call (.Attribute o m apos) [] [] pos) (tMeth C m sp [] E0 ta tNil) := by
  obtain ⟨f, fd, ps, F, M, b⟩ := c.ex
  exact pe_meth0 he l M F (hr.mono hk) b .nil pass0 ht
theorem pe_mk (c : If X.prog X.w X.K X.mg X.base k C sp) (hr : Room j X.A) (hk : k + 1 ≤ j) (hg : Gl X x) (hm : X.mg x = some (.ref C)) (ha : PA X (e :: es) t)
    (hdb : (x == ("__debug__" : Str)) = false := by decide) (he : starEach (e :: es) X.env = (false, eval e X.env) :: starEach es X.env := by rfl) (hpl : (backTo pos (starEach es X.env)).any (·.1) = false := by rfl) :
    PE X (.Call (.Name x p) (e :: es) [] pos) (tMake C sp [] E0 t) := by
  obtain ⟨f, fd, ps, F, M, b⟩ := c.ex
  exact pe_make M F (hr.mono hk) hg hm b .nil pass0 ha hdb he hpl
theorem pe_mk0 (c : If X.prog X.w X.K X.mg X.base k C sp) (hr : Room j X.A) (hk : k + 1 ≤ j) (hg : Gl X x) (hm : X.mg x = some (.ref C))
    (hdb : (x == ("__debug__" : Str)) = false := by decide) : PE X (.Call (.Name x p) [] [] pos) (tMake C sp [] E0 tNil) := by
  obtain ⟨f, fd, ps, F, M, b⟩ := c.ex
  exact pe_make0 M F (hr.mono hk) hg hm b .nil pass0 hdb
/-! .. that may raise -/
def tMethS (C : Addr) (m : Str) (sp : Sp) (W : WX) (ta : TE) (t : TA) : TE := fun σ H Q => ta σ H fun x H1 => ∃ a dx fs, x = .ref a ∧ H1 a = some (.ins C dx fs) ∧ fs.lookup m = none ∧
  t σ H1 fun vs H2 => sp (x :: vs) H2 Q (WE W σ)
theorem pe_me {pl : Sem Bool} {W : WX} (c : Mf X.prog X.w X.K X.mg X.base (L2.CX X.prog X.w) k C m sp) (l : Cls X.K C) (hr : Room j X.A) (hk : k ≤ j) (tk : Takes X W) (he : PE X o ta) (ha : PA X (e :: es) t)
    (hst : starEach (e :: es) X.env = (false, eval e X.env) :: starEach es X.env := by rfl) (hpl : (backTo pos (starEach es X.env)).any (·.1) = false := by rfl)
    (ht : eval (.Call (.Attribute o m apos) (e :: es) [] pos) X.env = (do
      let ov ← eval o X.env
      standAt apos.atName
      let (f, first) ← holding [ov] (getMethod ov m pl)
      callWith pos f first (backTo pos (starEach (e :: es) X.env)) (backToKw pos (keywordEach [] X.env))) := by rfl) :
    PE X (.Call (.Attribute o m apos) (e :: es) [] pos) (tMethS C m sp W ta t) := by
  obtain ⟨f, fd, ps, F, M, b⟩ := c.ex
  refine ⟨fun pins s σ H Q I h => ?_⟩
  refine PySem.W.methodCall_KW (pl := pl) (thn (he.run pins s σ H _ I h) fun u s1 ⟨x, H1, I1, rx, a, dx, fs, ex, ea, l2, q⟩ => ?_) ht
  subst ex
  obtain rfl : u = Value.ref a := rx
  refine getmeth_ok I1 ea l M l2 ?_
  refine PySem.W.callWith_K (first := [.ref a]) (h₀ := X.base) I.ok.mod.kin M.kp (thn (ha.run pos pins s1 σ H1 _ I1 q) fun us s2 ⟨vs, H2, I2, r, q2⟩ => ⟨I2.kIn, ?_⟩) hst hpl
  exact run_fnSD (us := .ref a :: us) (vs := .ref a :: vs) (dvs := []) F (hr.mono hk) b .nil (passAt tk σ) I2 (.cons rfl r) (by rw [List.append_nil]; exact q2)
theorem pe_mez {pl : Sem Bool} {W : WX} (c : Mf X.prog X.w X.K X.mg X.base (L2.CX X.prog X.w) k C m sp) (l : Cls X.K C) (hr : Room j X.A) (hk : k ≤ j) (tk : Takes X W) (he : PE X o ta)
    (ht : eval (.Call (.Attribute o m apos) [] [] pos) X.env = (do
      let ov ← eval o X.env
      standAt apos.atName
      let (f, first) ← holding [ov] (getMethod ov m pl)
      callWith pos f first (backTo pos (starEach [] X.env)) (backToKw pos (keywordEach [] X.env))) := by rfl) :
    PE X (.Call (.Attribute o m apos) [] [] pos) (tMethS C m sp W ta tNil) := by
  obtain ⟨f, fd, ps, F, M, b⟩ := c.ex
  refine ⟨fun pins s σ H Q I h => ?_⟩
  refine PySem.W.methodCall_KW (pl := pl) (thn (he.run pins s σ H _ I h) fun u s1 ⟨x, H1, I1, rx, a, dx, fs, ex, ea, l2, q⟩ => ?_) ht
  subst ex
  obtain rfl : u = Value.ref a := rx
  refine getmeth_ok I1 ea l M l2 ?_
  refine PySem.W.callWith_K0 I1.kIn M.kp ?_
  exact run_fnSD (us := [.ref a]) (vs := [.ref a]) (dvs := []) F (hr.mono hk) b .nil (passAt tk σ) I1 (.cons rfl .nil) (by rw [List.append_nil]; exact q)
end
section
variable {P : Program} {w : World} {K : PySem.W.Frag} {mg : Str → Option Value} {base : Heap} {x m q : Str} {st : Stmt} {N ps : List Str} {k : Nat} {sp : Sp}
theorem AtM.m0 (F : AtM K (x, some m) m q st) (M : Meth K (He.ga K x) m (He.ma K (He.ga K x) m)) (S : FnScope N ps (defScope st)) (len : ∀ vs H Q E, sp vs H Q E → vs.length = ps.length)
    (b : ∀ (f : Addr) (fd : FuncData), FunD K m q (defArgs st) (defBody st) (defScope st) [] [] f fd → Binds K fd ps [])
    (hbody : ∀ (f : Addr) (cdv : Value) (A : Around) (outer : List Env) (s : Shared) (H : Hp) (vs : List V) (Q : VK) (E : XK), Room k (A.deeper (envOfC q (defScope st) s.heap.objs.size f cdv)) → sp vs H Q E →
      ∃ t, PSs (cxOf CX0 P w K mg base N q (defScope st) f cdv A outer s H E).nox (defBody st) t ∧ t { nx := fun _ H' => Q .non H', rt := Q } (start N vs) H) : M0 P w K mg base (k + 1) (He.ga K x) m sp := by
  obtain ⟨fd, F⟩ := F.ex
  have G : FnOk P w K mg base CX0 (k + 1) _ fd ps sp := F.ok S len fun cdv A outer s H vs Q E hr h => by
    obtain ⟨t, h1, h2⟩ := hbody _ cdv A outer s H vs Q E hr h
    exact ⟨t, h1.nox, h2⟩
  exact ⟨_, fd, ps, G, M, b _ fd F⟩
theorem AtM.me (F : AtM K (x, some m) m q st) (M : Meth K (He.ga K x) m (He.ma K (He.ga K x) m)) (S : FnScope N ps (defScope st)) (len : ∀ vs H Q E, sp vs H Q E → vs.length = ps.length)
    (b : ∀ (f : Addr) (fd : FuncData), FunD K m q (defArgs st) (defBody st) (defScope st) [] [] f fd → Binds K fd ps [])
    (hbody : ∀ (f : Addr) (cdv : Value) (A : Around) (outer : List Env) (s : Shared) (H : Hp) (vs : List V) (Q : VK) (E : XK), Room k (A.deeper (envOfC q (defScope st) s.heap.objs.size f cdv)) → sp vs H Q E →
      ∃ t, PSs (cxOf (L2.CX P w) P w K mg base N q (defScope st) f cdv A outer s H E) (defBody st) t ∧ t { nx := fun _ H' => Q .non H', rt := Q } (start N vs) H) : ME P w K mg base (k + 1) (He.ga K x) m sp := by
  obtain ⟨fd, F⟩ := F.ex
  have G : FnOk P w K mg base (L2.CX P w) (k + 1) _ fd ps sp := F.ok S len fun cdv A outer s H vs Q E hr h => hbody _ cdv A outer s H vs Q E hr h
  exact ⟨_, fd, ps, G, M, b _ fd F⟩
theorem AtM.mi (F : AtM K (x, some "__init__") "__init__" q st) (M : Mk K (He.ga K x) (He.ma K (He.ga K x) "__init__")) (S : FnScope N ps (defScope st)) (len : ∀ vs H Q E, sp vs H Q E → vs.length = ps.length)
    (b : ∀ (f : Addr) (fd : FuncData), FunD K "__init__" q (defArgs st) (defBody st) (defScope st) [] [] f fd → Binds K fd ps [])
    (hbody : ∀ (f : Addr) (cdv : Value) (A : Around) (outer : List Env) (s : Shared) (H : Hp) (vs : List V) (Q : VK) (E : XK), Room k (A.deeper (envOfC q (defScope st) s.heap.objs.size f cdv)) → sp vs H Q E →
      ∃ t, PSs (cxOf CX0 P w K mg base N q (defScope st) f cdv A outer s H E).nox (defBody st) t ∧ t { nx := fun _ H' => Q .non H', rt := Q } (start N vs) H) : If P w K mg base (k + 1) (He.ga K x) sp := by
  obtain ⟨fd, F⟩ := F.ex
  have G : FnOk P w K mg base CX0 (k + 1) _ fd ps sp := F.ok S len fun cdv A outer s H vs Q E hr h => by
    obtain ⟨t, h1, h2⟩ := hbody _ cdv A outer s H vs Q E hr h
    exact ⟨t, h1.nox, h2⟩
  exact ⟨_, fd, ps, G, M, b _ fd F⟩
/-- binding in a method (its name and its place's name differ) -/
theorem bdm (h : ∀ (kV doc pm : Value) (an : Option Addr) (cdv ct : Value) (us : List Value), us.length = ps.length → bindArgs (PySem.W.fnOf m q (defArgs st) (defBody st) (defScope st) .none kV doc pm an cdv ct) ⟨us, []⟩ = pure (ps.zip us)) :
    ∀ (f : Addr) (fd : FuncData), FunD K m q (defArgs st) (defBody st) (defScope st) [] [] f fd → Binds K fd ps [] := fun f fd F => by
  obtain ⟨oc, od, dV, kV, doc, pm, an, cdv, ct, osl, rfl, _, _, hD, _⟩ := F.ex
  rcases hD with ⟨_, rfl⟩ | ⟨n, _⟩
  · exact .all (h kV doc pm an cdv ct)
  · exact absurd rfl n
end
/-! ### readings -/
section
variable {K : PySem.W.Frag} {σ : L2.St} {H : Hp} {Q : VK} {D : Ends} {te tv : TE} {tr : TA} {a C dx : Addr} {fs : List (Str × V)} {f m : Str} {v : V} {sp : Sp} {W : WX} {E : XK}
/-- o.f -/
def FldW (K : PySem.W.Frag) (f : Str) (x : V) (H1 : Hp) (Q : VK) : Prop := ∃ a C dx fs v, x = .ref a ∧ H1 a = some (.ins C dx fs) ∧ Cls K C ∧ NoAttr K C f ∧ fs.lookup f = some v ∧ Q v H1
theorem r_fld (q : te σ H fun x H1 => FldW K f x H1 Q) : tFld K te f σ H Q := q
theorem r_fldW (h : H a = some (.ins C dx fs)) (c : Cls K C) (n : NoAttr K C f) (l : fs.lookup f = some v) (q : Q v H) : FldW K f (.ref a) H Q := ⟨a, C, dx, fs, v, rfl, h, c, n, l, q⟩
/-- o.f = e -/
def SetW (K : PySem.W.Frag) (f : Str) (y x : V) (H2 : Hp) (R : Hp → Prop) : Prop := ∃ a C dx fs, x = .ref a ∧ H2 a = some (.ins C dx fs) ∧ Cls K C ∧ NoAttr K C f ∧ fs.length < 1000 ∧ R (upd H2 a (.ins C dx (putF f y fs)))
theorem r_sfld (q : tv σ H fun y H1 => te σ H1 fun x H2 => SetW K f y x H2 (D.nx σ)) : sFld K te tv f D σ H := q
theorem r_setW {y : V} {R : Hp → Prop} {fs' : List (Str × V)} (h : H a = some (.ins C dx fs)) (c : Cls K C) (n : NoAttr K C f) (hl : fs.length < 1000) (e : putF f y fs = fs') (q : ∀ H', But a H H' → H' a = some (.ins C dx fs') → R H') : SetW K f y (.ref a) H R :=
  ⟨a, C, dx, fs, rfl, h, c, n, hl, q _ But.upd (by rw [e]; exact upd_same)⟩
/-- o.f += e -/
def AugW (K : PySem.W.Frag) (f : Str) (tv : TE) (rd : V → V → Hp → VK → Prop) (σ : L2.St) (x : V) (H1 : Hp) (R : Hp → Prop) : Prop := ∃ a C dx fs v, x = .ref a ∧ H1 a = some (.ins C dx fs) ∧ Cls K C ∧ NoAttr K C f ∧ fs.lookup f = some v ∧
  tv σ H1 fun y H2 => rd v y H2 fun z H3 => ∃ dx' fs', H3 a = some (.ins C dx' fs') ∧ fs'.length < 1000 ∧ R (upd H3 a (.ins C dx' (putF f z fs')))
theorem r_afld {rd : V → V → Hp → VK → Prop} (q : te σ H fun x H1 => AugW K f tv rd σ x H1 (D.nx σ)) : sFldAug K te tv rd f D σ H := q
/-- o.m(..) -/
def MethW (C : Addr) (m : Str) (sp : Sp) (E : XK) (σ : L2.St) (tr : TA) (x : V) (H1 : Hp) (Q : VK) : Prop := ∃ a dx fs, x = .ref a ∧ H1 a = some (.ins C dx fs) ∧ fs.lookup m = none ∧ tr σ H1 fun vs H2 => sp (x :: (vs ++ [])) H2 Q E
theorem r_meth (q : te σ H fun x H1 => MethW C m sp E σ tr x H1 Q) : tMeth C m sp [] E te tr σ H Q := q
theorem r_methW (h : H a = some (.ins C dx fs)) (l : fs.lookup m = none) (q : tr σ H fun vs H2 => sp (.ref a :: vs) H2 Q E) : MethW C m sp E σ tr (.ref a) H Q := ⟨a, dx, fs, rfl, h, l, by simpa only [List.append_nil] using q⟩
def MethSW (C : Addr) (m : Str) (sp : Sp) (W : WX) (σ : L2.St) (tr : TA) (x : V) (H1 : Hp) (Q : VK) : Prop := ∃ a dx fs, x = .ref a ∧ H1 a = some (.ins C dx fs) ∧ fs.lookup m = none ∧ tr σ H1 fun vs H2 => sp (x :: vs) H2 Q (WE W σ)
theorem r_methS (q : te σ H fun x H1 => MethSW C m sp W σ tr x H1 Q) : tMethS C m sp W te tr σ H Q := q
theorem r_methSW (h : H a = some (.ins C dx fs)) (l : fs.lookup m = none) (q : tr σ H fun vs H2 => sp (.ref a :: vs) H2 Q (WE W σ)) : MethSW C m sp W σ tr (.ref a) H Q := ⟨a, dx, fs, rfl, h, l, q⟩
/-- C(..) -/
def MakeW (C : Addr) (sp : Sp) (E : XK) (vs : List V) (H1 : Hp) (Q : VK) : Prop := ∀ x dx, H1 x = none → H1 dx = none → dx ≠ x → sp (.ref x :: (vs ++ [])) (upd (upd H1 dx (.own x)) x (.ins C dx [])) (fun v H2 => v = .non ∧ Q (.ref x) H2) E
theorem r_make (q : tr σ H fun vs H1 => MakeW C sp E vs H1 Q) : tMake C sp [] E tr σ H Q := q
theorem r_makeW {vs : List V} (q : ∀ x dx H', H x = none → Same H H' → H' x = some (.ins C dx []) → sp (.ref x :: vs) H' (fun v H2 => v = .non ∧ Q (.ref x) H2) E) : MakeW C sp E vs H Q := fun x dx hx hdx ne => by
  rw [List.append_nil]
  exact q x dx _ hx (fun b o e => by rw [upd_ne (ne_of_none e hx), upd_ne (ne_of_none e hdx)]; exact e) upd_same
theorem r_fldHd {x : V} (q : FldW K f x H Q) : FldW K f x H Q := q
theorem r_setHd {y x : V} {R : Hp → Prop} (q : SetW K f y x H R) : SetW K f y x H R := q
theorem r_methHd {x : V} (q : MethW C m sp E σ tr x H Q) : MethW C m sp E σ tr x H Q := q
theorem r_methSHd {x : V} (q : MethSW C m sp W σ tr x H Q) : MethSW C m sp W σ tr x H Q := q
theorem r_tgL {g : TGs} {n : Nat} {xs : List V} {QS : L2.St → Hp → Prop} (h : SqL K H a xs) (q : g xs σ H QS) (hl : xs.length = n) : gLst K n g (.ref a) σ H QS := ⟨a, xs, rfl, h, hl, q⟩
def AugS (K : PySem.W.Frag) (f : Str) (tv : TE) (σ : L2.St) (a C dx : Addr) (fs : List (Str × V)) (x : Str) (H1 : Hp) (R : Hp → Prop) : Prop := tv σ H1 fun y H2 => L2.rAddS (.str x) y H2 fun z H3 => ∃ dx' fs', H3 a = some (.ins C dx' fs') ∧ fs'.length < 1000 ∧ R (upd H3 a (.ins C dx' (putF f z fs')))
theorem r_augS {x : Str} {R : Hp → Prop} (h : H a = some (.ins C dx fs)) (c : Cls K C) (n : NoAttr K C f) (l : fs.lookup f = some (.str x)) (q : AugS K f tv σ a C dx fs x H R) : AugW K f tv L2.rAddS σ (.ref a) H R := ⟨a, C, dx, fs, .str x, rfl, h, c, n, l, q⟩
theorem r_augE {x j : Str} {R : Hp → Prop} {fs' : List (Str × V)} (hl : x.length + j.length ≤ 16777216) (h : H a = some (.ins C dx fs)) (hn : fs.length < 1000) (e : putF f (.str (x ++ j)) fs = fs') (q : ∀ H', But a H H' → H' a = some (.ins C dx fs') → R H') :
    L2.rAddS (.str x) (.str j) H fun z H3 => ∃ dx' fs', H3 a = some (.ins C dx' fs') ∧ fs'.length < 1000 ∧ R (upd H3 a (.ins C dx' (putF f z fs'))) :=
  ⟨x, j, rfl, rfl, szl hl, dx, fs, h, hn, q _ But.upd (by rw [e]; exact upd_same)⟩
end
section
variable {X : Cx}
theorem k_fld (K : PySem.W.Frag) {e : Expr} {f : Str} {pos : Pos} {ta : TE} (he : PE X e ta) (hb : attributeBase e f X.env (eval e X.env) = eval e X.env) (hK : X.K = K := by rfl) : PE X (.Attribute e f pos) (tFld K ta f) := hK ▸ pe_fld he hb
theorem k_lst (K : PySem.W.Frag) {es : List Expr} {k : Nat} {t : TGs} {n : Nat} {pos : Pos} (hc : X.calm = true) (h : PGs X es t)
    (hn : (assignEach es X.env).length = n := by rfl) (hst : (assignEach es X.env).findIdx? (·.1) = none := by rfl) (hK : X.K = K := by rfl) : PG X (.Tuple es k pos) (gLst K n t) := hK ▸ pg_lst hc h hn hst
end
end Z

section
end
open L2 (Same Dp DpAll)
local macro_rules | `(tactic| walk_at "szs") => `(tactic| first | (simp only [List.length_cons, List.length_nil, List.length_append, List.length_map, List.length_take, List.length_drop, List.length_set, Z.len_empty, Z.len_app] <;> omega) | omega | (simp [Z.len_app, M.S_len, PyProof.Rows.ofString_length] <;> omega))
local macro_rules | `(tactic| walk_at "fn") => `(tactic| first | assumption | (refine Z.fr (by assumption) ?_; walk_at "sm"))
local macro_rules | `(tactic| walk_at "sm") => `(tactic| first
  | assumption
  | exact Same.refl _
  | (refine Z.Same.tr (by assumption) ?_; walk_at "sm")
  | (refine Z.Same.but (by assumption) ?_ ?_; (walk_at "fn"); walk_at "sm"))
local macro_rules | `(tactic| walk_at "bt") => `(tactic| first
  | assumption
  | (refine Z.But.tr (by assumption) ?_; walk_at "bt")
  | (refine Z.But.but (by assumption) ?_; walk_at "bt")
  | (refine Z.But.but2 (by assumption) ?_ ?_; (walk_at "fn"); walk_at "bt")
  | (refine Z.But.of ?_; walk_at "sm"))
local macro_rules | `(tactic| walk_at "ne") => `(tactic| first
  | assumption
  | (refine Ne.symm ?_; assumption)
  | (refine Z.ne1 (o := ?o) (by assumption) ?h; (case h => walk_at "lk"))
  | (refine Ne.symm (Z.ne1 (o := ?o) (by assumption) ?h); (case h => walk_at "lk")))
local macro_rules | `(tactic| walk_at "lk") => `(tactic| first
  | assumption
  | with_reducible exact Dp.int _
  | with_reducible exact Dp.str _
  | with_reducible exact Dp.bl _
  | with_reducible exact Dp.non
  | with_reducible exact DpAll.nil
  | ((with_reducible refine Z.Fz.get (by assumption) ?_); walk_at "lk")
  | ((with_reducible refine Z.Ext.get (by assumption) ?_); walk_at "lk")
  | ((with_reducible refine Z.Fz.up (by assumption) ?_); walk_at "lk")
  | ((with_reducible refine Z.Ext.up (by assumption) ?_); walk_at "lk")
  | ((with_reducible refine Z.Fz.ups (by assumption) ?_); walk_at "lk")
  | ((with_reducible refine Z.Ext.ups (by assumption) ?_); walk_at "lk")
  | ((with_reducible refine Z.up (by assumption) ?_); walk_at "lk")
  | ((with_reducible refine Z.upB (by assumption) ?_ ?_); (walk_at "ne"); walk_at "lk")
  | ((with_reducible refine Z.sqL ?_); walk_at "lk")
  | ((with_reducible refine Z.sqT ?_); walk_at "lk")
  | ((with_reducible refine Z.upL (by assumption) ?_); walk_at "lk")
  | ((with_reducible refine Z.upT (by assumption) ?_); walk_at "lk")
  | ((with_reducible refine Z.upLB (by assumption) ?_ ?_); (walk_at "ne"); walk_at "lk")
  | ((with_reducible refine Z.upTB (by assumption) ?_ ?_); (walk_at "ne"); walk_at "lk")
  | ((with_reducible refine Z.Dq.up (by assumption) ?_); walk_at "lk")
  | ((with_reducible refine Z.DqAll.up (by assumption) ?_); walk_at "lk")
  | ((with_reducible refine Z.dpUp (by assumption) ?_); walk_at "lk")
  | ((with_reducible refine Z.dpsUp (by assumption) ?_); walk_at "lk")
  | ((with_reducible refine DpAll.cons ?_ ?_); (walk_at "lk"); walk_at "lk")
  | ((with_reducible refine Dp.tup (xs := ?xs) ?h1 ?h2); (case h1 => walk_at "lk"); (case h2 => walk_at "lk"))
  | ((with_reducible refine Dp.lst (xs := ?xs) ?h1 ?h2); (case h1 => walk_at "lk"); (case h2 => walk_at "lk"))
  | with_reducible exact Z.Dq.int _
  | with_reducible exact Z.Dq.bl _
  | with_reducible exact Z.Dq.non
  | with_reducible exact Z.DqAll.nil
  | ((with_reducible refine Z.Dq.str _ ?_); walk_at "szs")
  | ((with_reducible refine Z.DqAll.cons ?_ ?_); (walk_at "lk"); walk_at "lk")
  | ((with_reducible refine Z.dq_tup (xs := ?xs) ?h1 ?h2 ?h3); (case h1 => walk_at "lk"); (case h2 => walk_at "lk"); (case h3 => walk_at "szs"))
  | ((with_reducible refine Z.dq_lst (xs := ?xs) ?h1 ?h2 ?h3); (case h1 => walk_at "lk"); (case h2 => walk_at "lk"); (case h3 => walk_at "szs")))
local macro_rules | `(tactic| walk_at "ex") => `(tactic| first
  | assumption
  | exact Z.Fz.ext (by assumption)
  | (refine Z.Ext.tr (by assumption) ?_; walk_at "ex"))
local macro_rules | `(tactic| walk_at "sd") => `(tactic| first
  | rfl
  | assumption
  | omega
  | decide
  | decide +kernel
  | exact Z.szl (by walk_at "szs")
  | exact Z.szlt (by walk_at "szs")
  | exact Or.inl ⟨by omega, by omega⟩
  | exact Or.inl (Or.inl ⟨by omega, by omega⟩)
  | exact Or.inl (Or.inr ⟨by omega, by omega⟩)
  | exact ⟨by omega, by omega⟩
  | exact ⟨by omega, by omega, by omega⟩)
local macro_rules | `(tactic| walk_at "rg") => `(tactic| first
  | exact ⟨by omega, by omega⟩
  | exact ⟨by omega, by omega, by omega, by omega⟩
  | decide)
local macro_rules | `(tactic| walk_at "isi") => `(tactic| first
  | with_reducible refine Z.q_int_int ?_
  | with_reducible refine Z.q_int_bool ?_
  | with_reducible refine Z.q_int_str ?_
  | with_reducible refine Z.q_int_list ?_
  | with_reducible refine Z.q_int_tuple ?_
  | with_reducible refine Z.q_int_dict ?_
  | with_reducible refine Z.q_bool_int ?_
  | with_reducible refine Z.q_bool_bool ?_
  | with_reducible refine Z.q_bool_str ?_
  | with_reducible refine Z.q_bool_list ?_
  | with_reducible refine Z.q_bool_tuple ?_
  | with_reducible refine Z.q_bool_dict ?_
  | with_reducible refine Z.q_str_int ?_
  | with_reducible refine Z.q_str_bool ?_
  | with_reducible refine Z.q_str_str ?_
  | with_reducible refine Z.q_str_list ?_
  | with_reducible refine Z.q_str_tuple ?_
  | with_reducible refine Z.q_str_dict ?_
  | with_reducible refine Z.q_NoneType_int ?_
  | with_reducible refine Z.q_NoneType_bool ?_
  | with_reducible refine Z.q_NoneType_str ?_
  | with_reducible refine Z.q_NoneType_list ?_
  | with_reducible refine Z.q_NoneType_tuple ?_
  | with_reducible refine Z.q_NoneType_dict ?_
  | ((with_reducible refine Z.q_list_int (xs := ?xs) ?h ?_); (case h => walk_at "lk"))
  | ((with_reducible refine Z.q_list_bool (xs := ?xs) ?h ?_); (case h => walk_at "lk"))
  | ((with_reducible refine Z.q_list_str (xs := ?xs) ?h ?_); (case h => walk_at "lk"))
  | ((with_reducible refine Z.q_list_list (xs := ?xs) ?h ?_); (case h => walk_at "lk"))
  | ((with_reducible refine Z.q_list_tuple (xs := ?xs) ?h ?_); (case h => walk_at "lk"))
  | ((with_reducible refine Z.q_list_dict (xs := ?xs) ?h ?_); (case h => walk_at "lk"))
  | ((with_reducible refine Z.q_tuple_int (xs := ?xs) ?h ?_); (case h => walk_at "lk"))
  | ((with_reducible refine Z.q_tuple_bool (xs := ?xs) ?h ?_); (case h => walk_at "lk"))
  | ((with_reducible refine Z.q_tuple_str (xs := ?xs) ?h ?_); (case h => walk_at "lk"))
  | ((with_reducible refine Z.q_tuple_list (xs := ?xs) ?h ?_); (case h => walk_at "lk"))
  | ((with_reducible refine Z.q_tuple_tuple (xs := ?xs) ?h ?_); (case h => walk_at "lk"))
  | ((with_reducible refine Z.q_tuple_dict (xs := ?xs) ?h ?_); (case h => walk_at "lk"))
  | ((with_reducible refine Z.q_dict_int (xs := ?xs) ?h ?_); (case h => walk_at "lk"))
  | ((with_reducible refine Z.q_dict_bool (xs := ?xs) ?h ?_); (case h => walk_at "lk"))
  | ((with_reducible refine Z.q_dict_str (xs := ?xs) ?h ?_); (case h => walk_at "lk"))
  | ((with_reducible refine Z.q_dict_list (xs := ?xs) ?h ?_); (case h => walk_at "lk"))
  | ((with_reducible refine Z.q_dict_tuple (xs := ?xs) ?h ?_); (case h => walk_at "lk"))
  | ((with_reducible refine Z.q_dict_dict (xs := ?xs) ?h ?_); (case h => walk_at "lk"))
  | ((with_reducible refine Z.r_isQ_int (d := ?d) ?h ?_); (case h => walk_at "lk"))
  | ((with_reducible refine Z.r_isQ_bool (d := ?d) ?h ?_); (case h => walk_at "lk"))
  | ((with_reducible refine Z.r_isQ_str (d := ?d) ?h ?_); (case h => walk_at "lk"))
  | ((with_reducible refine Z.r_isQ_list (d := ?d) ?h ?_); (case h => walk_at "lk"))
  | ((with_reducible refine Z.r_isQ_tuple (d := ?d) ?h ?_); (case h => walk_at "lk"))
  | ((with_reducible refine Z.r_isQ_dict (d := ?d) ?h ?_); (case h => walk_at "lk")))
local macro_rules | `(tactic| walk_at "tr") => `(tactic| (set_option pp.maxSteps 1500 in trace_state))
local macro_rules | `(tactic| walk_at "st") => `(tactic| try dsimp only [cxOf, Cx.wish])
local macro_rules | `(tactic| walk_at "rd1") => `(tactic| first
  | with_reducible refine Z.v0 ?_
  | with_reducible refine Z.v1 ?_
  | with_reducible refine Z.v2 ?_
  | with_reducible refine Z.v3 ?_
  | with_reducible refine Z.v4 ?_
  | with_reducible refine Z.v5 ?_
  | with_reducible refine Z.v6 ?_
  | with_reducible refine Z.v7 ?_
  | with_reducible refine Z.v8 ?_
  | with_reducible refine Z.v9 ?_
  | with_reducible refine Z.v10 ?_
  | with_reducible refine Z.v11 ?_
  | with_reducible refine Z.v12 ?_
  | with_reducible refine Z.v13 ?_
  | with_reducible refine Z.v14 ?_
  | with_reducible refine Z.r_c ?_
  | with_reducible refine Z.r_op ?_
  | with_reducible refine Z.r_seq ?_
  | with_reducible refine Z.r_asg ?_
  | with_reducible refine Z.n0 ?_
  | with_reducible refine Z.n1 ?_
  | with_reducible refine Z.n2 ?_
  | with_reducible refine Z.n3 ?_
  | with_reducible refine Z.n4 ?_
  | with_reducible refine Z.n5 ?_
  | with_reducible refine Z.n6 ?_
  | with_reducible refine Z.n7 ?_
  | with_reducible refine Z.n8 ?_
  | with_reducible refine Z.n9 ?_
  | with_reducible refine Z.n10 ?_
  | with_reducible refine Z.n11 ?_
  | with_reducible refine Z.n12 ?_
  | with_reducible refine Z.n13 ?_
  | with_reducible refine Z.n14 ?_
  | with_reducible refine Z.r_cons ?_
  | with_reducible refine Z.r_nil ?_
  | with_reducible refine Z.r_CB ?_
  | with_reducible refine Z.r_call ?_
  | with_reducible refine Z.r_ret ?_
  | with_reducible refine Z.r_ifS ?_
  | with_reducible refine Z.r_test ?_
  | with_reducible refine Z.r_tB ?_
  | with_reducible refine Z.r_exB ?_
  | with_reducible refine Z.r_exI ?_
  | with_reducible refine Z.r_T ?_
  | with_reducible refine Z.r_F ?_
  | with_reducible refine Z.r_nT ?_
  | with_reducible refine Z.r_nF ?_
  | with_reducible refine Z.r_addI ?_
  | with_reducible refine Z.r_sub ?_
  | ((with_reducible refine Z.r_mulI ?_ ?h); (case h => walk_at "sd"))
  | ((with_reducible refine Z.r_mod ?_ ?h); (case h => walk_at "sd"))
  | ((with_reducible refine Z.r_div ?_ ?h); (case h => walk_at "sd"))
  | with_reducible refine Z.p10_6 ?_
  | with_reducible refine Z.p10_8 ?_
  | with_reducible refine Z.p10_9 ?_
  | with_reducible refine Z.p10_18 ?_
  | ((with_reducible refine Z.r_pow ?_ ?h); (case h => walk_at "sd"))
  | ((with_reducible refine Z.r_addS ?_ ?h); (case h => walk_at "sd"))
  | ((with_reducible refine Z.r_addL (xs := ?xs) (ys := ?ys) ?h1 ?h2 ?_ ?h); (case h1 => walk_at "lk"); (case h2 => walk_at "lk"); (case h => walk_at "sd"))
  | with_reducible refine Z.r_eqI ?_
  | with_reducible refine Z.r_neI ?_
  | with_reducible refine Z.r_eqS ?_
  | with_reducible refine Z.r_neS ?_
  | ((with_reducible refine Z.r_eq ?_ ?h); (case h => rfl))
  | ((with_reducible refine Z.r_ne ?_ ?h); (case h => rfl))
  | with_reducible refine Z.r_lt ?_
  | with_reducible refine Z.r_le ?_
  | with_reducible refine Z.r_gt ?_
  | with_reducible refine Z.r_ge ?_
  | with_reducible refine Z.r_isN ?_
  | ((with_reducible refine Z.r_strN ?_ ?h); (case h => walk_at "sd"))
  | with_reducible refine Z.r_din ?_
  | with_reducible refine Z.r_dnotin ?_
  | with_reducible refine Z.r_dput ?_
  | with_reducible refine Z.r_dgetS ?_
  | ((with_reducible refine Z.r_dgs (kvs := ?kvs) ?h ?_); (case h => walk_at "lk"))
  | ((with_reducible refine Z.r_dps (kvs := ?kvs) ?h ?h2 ?_); (case h => walk_at "lk"); (case h2 => walk_at "sd"))
  | with_reducible refine Z.r_lrg0 ?_
  | ((with_reducible refine Z.r_sortI (ns := ?ns) ?h ?_); (case h => walk_at "lk"))
  | with_reducible refine Z.r_veI ?_
  | with_reducible refine Z.r_dnewK ?_
  | with_reducible refine Z.r_xv0 ?_
  | with_reducible refine Z.r_xf0 ?_
  | ((with_reducible refine Z.r_mulS ?_ ?h); (case h => exact ⟨by decide +kernel, fun _ _ => by decide +kernel, fun _ _ => by decide +kernel⟩))
  | with_reducible refine Z.r_ost ?_
  | with_reducible refine Z.r_raiO ?_
  | with_reducible refine Z.r_raiN ?_
  | with_reducible refine Z.r_ce ?_
  | with_reducible refine Z.r_fmtN ?_
  | with_reducible refine Z.r_isI ?_
  | with_reducible refine Z.r_isS ?_
  | with_reducible refine Z.r_isR ?_
  | with_reducible refine Z.r_isB ?_
  | with_reducible refine Z.r_notN ?_
  | with_reducible refine Z.r_notI ?_
  | with_reducible refine Z.r_notS ?_
  | with_reducible refine Z.r_notR ?_
  | with_reducible refine Z.r_inT ?_
  | with_reducible refine Z.r_notInT ?_
  | ((with_reducible refine Z.r_inL (xs := ?xs) ?h1 ?_ ?h2 ?h3); (case h1 => walk_at "lk"); (case h2 => rfl); (case h3 => first | rfl | assumption))
  | ((with_reducible refine Z.r_notInL (xs := ?xs) ?h1 ?_ ?h2 ?h3); (case h1 => walk_at "lk"); (case h2 => rfl); (case h3 => first | rfl | assumption))
  | ((with_reducible refine Z.r_ixL (xs := ?xs) (v := ?v) ?h1 ?h2 ?_); (case h1 => walk_at "lk"); (case h2 => first | rfl | assumption))
  | ((with_reducible refine Z.r_ixT (xs := ?xs) (v := ?v) ?h1 ?h2 ?_); (case h1 => walk_at "lk"); (case h2 => first | rfl | assumption))
  | ((with_reducible refine Z.r_lenL (xs := ?xs) ?h1 ?_); (case h1 => walk_at "lk"))
  | ((with_reducible refine Z.r_lenT (xs := ?xs) ?h1 ?_); (case h1 => walk_at "lk"))
  | ((with_reducible refine Z.r_lenS ?_ ?h1); (case h1 => walk_at "sd"))
  | with_reducible refine Z.r_lenSetS ?_
  | with_reducible refine Z.r_stepS ?_
  | with_reducible refine Z.r_intB ?_
  | with_reducible refine Z.r_revL ?_
  | ((with_reducible refine Z.r_revW (xs := ?xs) ?h ?_); (case h => walk_at "lk"))
  | with_reducible refine Z.r_abs ?_
  | with_reducible refine Z.r_max ?_
  | with_reducible refine Z.r_min ?_
  | ((with_reducible refine Z.r_strI ?_ ?h1); (case h1 => walk_at "sd"))
  | ((with_reducible refine Z.r_listL (xs := ?xs) ?h1 ?_); (case h1 => walk_at "lk"))
  | ((with_reducible refine Z.r_listT (xs := ?xs) ?h1 ?_); (case h1 => walk_at "lk"))
  | ((with_reducible refine Z.r_isiHd ?_); walk_at "isi")
  | with_reducible refine Z.r_tup ?_
  | with_reducible refine Z.r_lst ?_
  | ((with_reducible refine Z.r_newT ?_ ?h); (case h => walk_at "sd"))
  | ((with_reducible refine Z.r_newL ?_ ?h); (case h => walk_at "sd"))
  | with_reducible refine Z.r_sl ?_
  | with_reducible refine Z.r_part ?_
  | with_reducible refine Z.r_noPart ?_
  | ((with_reducible refine Z.r_slL (xs := ?xs) ?h1 ?_); (case h1 => walk_at "lk"))
  | ((with_reducible refine Z.r_slS ?_ ?h1); (case h1 => walk_at "sd"))
  | with_reducible refine Z.r_un ?_
  | with_reducible refine Z.r_U ?_
  | with_reducible refine Z.r_BM ?_
  | with_reducible refine Z.r_BM0 ?_
  | with_reducible refine Z.r_tyS ?_
  | ((with_reducible refine Z.r_tyL (xs := ?xs) ?h ?_); (case h => walk_at "lk"))
  | ((with_reducible refine Z.r_appendQ (xs := ?xs) ?h ?_ ?h2); (case h => walk_at "lk"); (case h2 => walk_at "sd"))
  | ((with_reducible refine Z.r_split ?_ ?h ?h2); (case h => first | rfl | decide +kernel); (case h2 => walk_at "sd"))
  | with_reducible refine Z.r_subTg ?_
  | ((with_reducible refine Z.r_setL (xs := ?xs) (n := ?n) ?h ?h2 ?_); (case h => walk_at "lk"); (case h2 => first | rfl | assumption))
  | with_reducible refine Z.r_fmt ?_
  | ((with_reducible refine Z.r_fmtI ?_ ?h); (case h => walk_at "sd"))
  | ((with_reducible refine Z.r_fmtS ?_ ?h); (case h => walk_at "sd"))
  | with_reducible refine Z.r_js0 ?_
  | with_reducible refine Z.r_js ?_
  | ((with_reducible refine Z.r_jsS ?_ ?h); (case h => walk_at "sd"))
  | with_reducible refine Z.r_and ?_
  | with_reducible refine Z.r_or ?_
  | with_reducible refine Z.r_not ?_
  | with_reducible refine Z.r_andV ?_
  | with_reducible refine Z.r_orV ?_
  | with_reducible refine Z.r_notV ?_
  | with_reducible refine Z.r_chain ?_
  | with_reducible refine Z.r_ifE ?_
  | with_reducible refine Z.r_next ?_
  | with_reducible refine Z.r_par ?_
  | with_reducible refine Z.r_par2 ?_
  | with_reducible refine Z.r_drop ?_
  | with_reducible refine Z.r_retN ?_
  | with_reducible refine Z.r_brk ?_
  | with_reducible refine Z.r_cnt ?_
  | ((with_reducible refine Z.r_tg (xs := ?xs) ?h ?_ ?h2); (case h => walk_at "lk"); (case h2 => rfl))
  | ((with_reducible refine Z.r_tgL (xs := ?xs) ?h ?_ ?h2); (case h => walk_at "lk"); (case h2 => first | rfl | assumption))
  | with_reducible refine Z.r_gcons ?_
  | with_reducible refine Z.r_gnil ?_
  | ((with_reducible refine Z.r_aug (i := ?i) ?h ?_); (case h => exact rfl))
  | with_reducible refine Z.r_for ?_
  | with_reducible refine Z.r_lc ?_
  | with_reducible refine Z.i_L ?_
  | with_reducible refine Z.i_T ?_
  | with_reducible refine Z.i_S ?_
  | with_reducible refine Z.i_R1 ?_
  | with_reducible refine Z.i_R2 ?_
  | with_reducible refine Z.i_E ?_
  | with_reducible refine Z.i_Z ?_
  | ((with_reducible refine Z.s_L (xs := ?xs) ?h1 ?_); (case h1 => walk_at "lk"))
  | ((with_reducible refine Z.s_T (xs := ?xs) ?h1 ?_); (case h1 => walk_at "lk"))
  | with_reducible refine Z.s_S ?_
  | ((with_reducible refine Z.s_R1 ?_ ?h1); (case h1 => walk_at "rg"))
  | ((with_reducible refine Z.s_R2 ?_ ?h1); (case h1 => walk_at "rg"))
  | ((with_reducible refine Z.s_E (xs := ?xs) ?h1 ?_); (case h1 => walk_at "lk"))
  | ((with_reducible refine Z.s_Z (xs := ?xs) (ys := ?ys) ?h1 ?h2 ?_); (case h1 => walk_at "lk"); (case h2 => walk_at "lk"))
  | with_reducible refine Z.r_yes ?_
  | ((with_reducible refine Z.r_wipe ?h ?_); (case h => rfl)))
local macro_rules | `(tactic| walk_at "rd") => `(tactic| repeat (walk_at "rd1"))
local macro_rules | `(tactic| walk_at "mn") => `(tactic| repeat (first
  | exact Z.m_var | exact Z.m_c | exact Z.m_gt | exact Z.m_lt | exact Z.m_ge | exact Z.m_le | exact Z.m_eqP | exact Z.m_neP
  | refine Z.m_test ?_ | refine Z.m_op ?_ ?_ ?_ | refine Z.m_or ?_ ?_ | refine Z.m_and ?_ ?_))

namespace My
open PySem PySem.Spec PyProof.Rows L2 Z M SX TL
def top (i : Nat) : Stmt := PySem.Challenge.pw_dearsigns_k64_whole_cases_read_back.main.body.getD i (.Pass ⟨0, 0, 0, 0⟩)
abbrev s_is_whole : Stmt := top 9
abbrev s_is_name : Stmt := top 10
abbrev s_divisor : Stmt := top 11
abbrev s_is_fraction : Stmt := top 12
abbrev s_lowest : Stmt := top 13
abbrev s_fraction : Stmt := top 14
abbrev s_whole_in : Stmt := top 25
abbrev s_fraction_in : Stmt := top 26
abbrev s_price_in : Stmt := top 27
abbrev s_read_case : Stmt := top 29
abbrev s_is_price : Stmt := top 35
abbrev s_is_letter : Stmt := top 36
abbrev s_is_sign : Stmt := top 37
abbrev s_are_signs : Stmt := top 38
abbrev s_are_unlike_texts : Stmt := top 39
abbrev s_look_at_tongue : Stmt := top 40
abbrev s_is_want : Stmt := top 44
abbrev s_look_at_wants : Stmt := top 45
abbrev s_show_fraction : Stmt := top 47
abbrev s_sign_row : Stmt := top 48
abbrev s_write_case : Stmt := top 49
abbrev s_law_pool : Stmt := top 51
abbrev s_law_take : Stmt := top 52
abbrev s_law_low : Stmt := top 53
abbrev s_law_price : Stmt := top 54
abbrev s_law_tongue : Stmt := top 55
abbrev s_law_name : Stmt := top 56
abbrev s_law_wants : Stmt := top 57
abbrev s_law_texts : Stmt := top 58
abbrev s_law_case : Stmt := top 59
abbrev s_law_same : Stmt := top 60
abbrev s_law_copy : Stmt := top 61
abbrev s_law_other : Stmt := top 62
abbrev s_law_is_spoilt : Stmt := top 63
abbrev s_law_called : Stmt := top 64
abbrev s_law : Stmt := top 65
theorem sc_is_whole : FnScope ["thing"] ["thing"] (defScope s_is_whole) := ⟨rfl, rfl, rfl, by decide +kernel, rfl, by decide +kernel, by decide +kernel⟩
theorem sc_is_name : FnScope ["thing", "sign"] ["thing"] (defScope s_is_name) := ⟨rfl, rfl, rfl, by decide +kernel, rfl, by decide +kernel, by decide +kernel⟩
theorem sc_divisor : FnScope ["one", "other"] ["one", "other"] (defScope s_divisor) := ⟨rfl, rfl, rfl, by decide +kernel, rfl, by decide +kernel, by decide +kernel⟩
theorem sc_is_fraction : FnScope ["thing", "top", "bottom"] ["thing"] (defScope s_is_fraction) := ⟨rfl, rfl, rfl, by decide +kernel, rfl, by decide +kernel, by decide +kernel⟩
theorem sc_lowest : FnScope ["top", "bottom", "share"] ["top", "bottom"] (defScope s_lowest) := ⟨rfl, rfl, rfl, by decide +kernel, rfl, by decide +kernel, by decide +kernel⟩
theorem sc_fraction : FnScope ["top", "bottom"] ["top", "bottom"] (defScope s_fraction) := ⟨rfl, rfl, rfl, by decide +kernel, rfl, by decide +kernel, by decide +kernel⟩
theorem sc_whole_in : FnScope ["word", "most", "sign"] ["word", "most"] (defScope s_whole_in) := ⟨rfl, rfl, rfl, by decide +kernel, rfl, by decide +kernel, by decide +kernel⟩
theorem sc_fraction_in : FnScope ["word", "most", "figures", "numbers", "one", "part"] ["word", "most"] (defScope s_fraction_in) := ⟨rfl, rfl, rfl, by decide +kernel, rfl, by decide +kernel, by decide +kernel⟩
theorem sc_price_in : FnScope ["word", "one"] ["word"] (defScope s_price_in) := ⟨rfl, rfl, rfl, by decide +kernel, rfl, by decide +kernel, by decide +kernel⟩
theorem sc_read_case : FnScope ["text", "told", "rows", "number", "row"] ["text"] (defScope s_read_case) := ⟨rfl, rfl, rfl, by decide +kernel, rfl, by decide +kernel, by decide +kernel⟩
theorem sc_is_price : FnScope ["thing"] ["thing"] (defScope s_is_price) := ⟨rfl, rfl, rfl, by decide +kernel, rfl, by decide +kernel, by decide +kernel⟩
theorem sc_is_letter : FnScope ["thing"] ["thing"] (defScope s_is_letter) := ⟨rfl, rfl, rfl, by decide +kernel, rfl, by decide +kernel, by decide +kernel⟩
theorem sc_is_sign : FnScope ["thing", "sign", "price", "last"] ["thing"] (defScope s_is_sign) := ⟨rfl, rfl, rfl, by decide +kernel, rfl, by decide +kernel, by decide +kernel⟩
theorem sc_are_signs : FnScope ["thing", "one"] ["thing"] (defScope s_are_signs) := ⟨rfl, rfl, rfl, by decide +kernel, rfl, by decide +kernel, by decide +kernel⟩
theorem sc_are_unlike_texts : FnScope ["thing", "size", "letters", "at", "one", "sign"] ["thing", "size", "letters"] (defScope s_are_unlike_texts) := ⟨rfl, rfl, rfl, by decide +kernel, rfl, by decide +kernel, by decide +kernel⟩
theorem sc_look_at_tongue : FnScope ["thing", "signs", "firsts", "pairs", "longest", "letters", "one"] ["thing"] (defScope s_look_at_tongue) := ⟨rfl, rfl, rfl, by decide +kernel, rfl, by decide +kernel, by decide +kernel⟩
theorem sc_is_want : FnScope ["thing"] ["thing"] (defScope s_is_want) := ⟨rfl, rfl, rfl, by decide +kernel, rfl, by decide +kernel, by decide +kernel⟩
theorem sc_look_at_wants : FnScope ["thing", "names", "number", "want"] ["thing"] (defScope s_look_at_wants) := ⟨rfl, rfl, rfl, by decide +kernel, rfl, by decide +kernel, by decide +kernel⟩
theorem sc_show_fraction : FnScope ["one"] ["one"] (defScope s_show_fraction) := ⟨rfl, rfl, rfl, by decide +kernel, rfl, by decide +kernel, by decide +kernel⟩
theorem sc_sign_row : FnScope ["row", "sign", "price", "last", "end"] ["row"] (defScope s_sign_row) := ⟨rfl, rfl, rfl, by decide +kernel, rfl, by decide +kernel, by decide +kernel⟩
theorem sc_write_case : FnScope ["case", "tongue", "wants", "book", "signs", "firsts", "pairs", "longest", "rows", "row", "sign", "pair", "name", "count", "word"] ["case"] (defScope s_write_case) := ⟨rfl, rfl, rfl, by decide +kernel, rfl, by decide +kernel, by decide +kernel⟩
theorem sc_law_pool : FnScope ["_law_script", "_law_k", "_law_cell", "_law_seed"] ["_law_script", "_law_k"] (defScope s_law_pool) := ⟨rfl, rfl, rfl, by decide +kernel, rfl, by decide +kernel, by decide +kernel⟩
theorem sc_law_take : FnScope ["_law_pool_here", "_law_many", "_law_found"] ["_law_pool_here", "_law_many"] (defScope s_law_take) := ⟨rfl, rfl, rfl, by decide +kernel, rfl, by decide +kernel, by decide +kernel⟩
theorem sc_law_low : FnScope ["_law_top", "_law_bottom", "_law_one", "_law_other_here"] ["_law_top", "_law_bottom"] (defScope s_law_low) := ⟨rfl, rfl, rfl, by decide +kernel, rfl, by decide +kernel, by decide +kernel⟩
theorem sc_law_price : FnScope ["_law_pool_here", "_law_way", "_law_top", "_law_bottom"] ["_law_pool_here"] (defScope s_law_price) := ⟨rfl, rfl, rfl, by decide +kernel, rfl, by decide +kernel, by decide +kernel⟩
theorem sc_law_tongue : FnScope ["_law_pool_here", "_law_most_signs", "_law_most_long", "_law_many", "_law_shift", "_law_step", "_law_k", "_law_letters", "_law_signs", "_law_letter", "_law_price_here", "_law_last", "_law_firsts", "_law_pairs", "_law_pair"] ["_law_pool_here", "_law_most_signs", "_law_most_long"] (defScope s_law_tongue) := ⟨rfl, rfl, rfl, by decide +kernel, rfl, by decide +kernel, by decide +kernel⟩
theorem sc_law_name : FnScope ["_law_k", "_law_salt", "_law_letters", "_law_at", "_law_tell", "_law_more"] ["_law_k", "_law_salt"] (defScope s_law_name) := ⟨rfl, rfl, rfl, by decide +kernel, rfl, by decide +kernel, by decide +kernel⟩
theorem sc_law_wants : FnScope ["_law_pool_here", "_law_many", "_law_salt", "_law_wants_here", "_law_k", "_law_way", "_law_count"] ["_law_pool_here", "_law_many"] (defScope s_law_wants) := ⟨rfl, rfl, rfl, by decide +kernel, rfl, by decide +kernel, by decide +kernel⟩
theorem sc_law_texts : FnScope ["_law_pool_here", "_law_many", "_law_found", "_law_k", "_law_at", "_law_step", "_law_size", "_law_j"] ["_law_pool_here", "_law_many"] (defScope s_law_texts) := ⟨rfl, rfl, rfl, by decide +kernel, rfl, by decide +kernel, by decide +kernel⟩
theorem sc_law_case : FnScope ["_law_script", "_law_most_things", "_law_pool_here", "_law_tongue_here", "_law_wants_here", "_law_book"] ["_law_script", "_law_most_things"] (defScope s_law_case) := ⟨rfl, rfl, rfl, by decide +kernel, rfl, by decide +kernel, by decide +kernel⟩
theorem sc_law_same : FnScope ["_law_found", "_law_due", "_law_k"] ["_law_found", "_law_due"] (defScope s_law_same) := ⟨rfl, rfl, rfl, by decide +kernel, rfl, by decide +kernel, by decide +kernel⟩
theorem sc_law_copy : FnScope ["_law_case_here", "_law_tongue_here", "_law_wants_here", "_law_book", "_law_copied"] ["_law_case_here"] (defScope s_law_copy) := ⟨rfl, rfl, rfl, by decide +kernel, rfl, by decide +kernel, by decide +kernel⟩
theorem sc_law_other : FnScope ["_law_pool_here", "_law_case_here", "_law_tongue_here", "_law_wants_here", "_law_book", "_law_way", "_law_at", "_law_name_here", "_law_fresh", "_law_want"] ["_law_pool_here", "_law_case_here"] (defScope s_law_other) := ⟨rfl, rfl, rfl, by decide +kernel, rfl, by decide +kernel, by decide +kernel⟩
theorem sc_law_is_spoilt : FnScope ["_law_told", "_law_case_here"] ["_law_told", "_law_case_here"] (defScope s_law_is_spoilt) := ⟨rfl, rfl, rfl, by decide +kernel, rfl, by decide +kernel, by decide +kernel⟩
theorem sc_law_called : FnScope ["_law_script", "_law_case_here", "_law_tongue_here", "_law_wants_here", "_law_book", "_law_pool_here", "_law_word", "_law_want"] ["_law_script", "_law_case_here"] (defScope s_law_called) := ⟨rfl, rfl, rfl, by decide +kernel, rfl, by decide +kernel, by decide +kernel⟩
theorem sc_law : FnScope ["_law_script", "_law_case_here", "_law_k", "_law_text", "_law_told"] ["_law_script"] (defScope s_law) := ⟨rfl, rfl, rfl, by decide +kernel, rfl, by decide +kernel, by decide +kernel⟩
theorem st_is_whole {a0 : V} : start ["thing"] [a0] = [some a0] := rfl
theorem st_is_name {a0 : V} : start ["thing", "sign"] [a0] = [some a0, none] := rfl
theorem st_divisor {a0 a1 : V} : start ["one", "other"] [a0, a1] = [some a0, some a1] := rfl
theorem st_is_fraction {a0 : V} : start ["thing", "top", "bottom"] [a0] = [some a0, none, none] := rfl
theorem st_lowest {a0 a1 : V} : start ["top", "bottom", "share"] [a0, a1] = [some a0, some a1, none] := rfl
theorem st_fraction {a0 a1 : V} : start ["top", "bottom"] [a0, a1] = [some a0, some a1] := rfl
theorem st_whole_in {a0 a1 : V} : start ["word", "most", "sign"] [a0, a1] = [some a0, some a1, none] := rfl
theorem st_fraction_in {a0 a1 : V} : start ["word", "most", "figures", "numbers", "one", "part"] [a0, a1] = [some a0, some a1, none, none, none, none] := rfl
theorem st_price_in {a0 : V} : start ["word", "one"] [a0] = [some a0, none] := rfl
theorem st_read_case {a0 : V} : start ["text", "told", "rows", "number", "row"] [a0] = [some a0, none, none, none, none] := rfl
theorem st_is_price {a0 : V} : start ["thing"] [a0] = [some a0] := rfl
theorem st_is_letter {a0 : V} : start ["thing"] [a0] = [some a0] := rfl
theorem st_is_sign {a0 : V} : start ["thing", "sign", "price", "last"] [a0] = [some a0, none, none, none] := rfl
theorem st_are_signs {a0 : V} : start ["thing", "one"] [a0] = [some a0, none] := rfl
theorem st_are_unlike_texts {a0 a1 a2 : V} : start ["thing", "size", "letters", "at", "one", "sign"] [a0, a1, a2] = [some a0, some a1, some a2, none, none, none] := rfl
theorem st_look_at_tongue {a0 : V} : start ["thing", "signs", "firsts", "pairs", "longest", "letters", "one"] [a0] = [some a0, none, none, none, none, none, none] := rfl
theorem st_is_want {a0 : V} : start ["thing"] [a0] = [some a0] := rfl
theorem st_look_at_wants {a0 : V} : start ["thing", "names", "number", "want"] [a0] = [some a0, none, none, none] := rfl
theorem st_show_fraction {a0 : V} : start ["one"] [a0] = [some a0] := rfl
theorem st_sign_row {a0 : V} : start ["row", "sign", "price", "last", "end"] [a0] = [some a0, none, none, none, none] := rfl
theorem st_write_case {a0 : V} : start ["case", "tongue", "wants", "book", "signs", "firsts", "pairs", "longest", "rows", "row", "sign", "pair", "name", "count", "word"] [a0] = [some a0, none, none, none, none, none, none, none, none, none, none, none, none, none, none] := rfl
theorem st_law_pool {a0 a1 : V} : start ["_law_script", "_law_k", "_law_cell", "_law_seed"] [a0, a1] = [some a0, some a1, none, none] := rfl
theorem st_law_take {a0 a1 : V} : start ["_law_pool_here", "_law_many", "_law_found"] [a0, a1] = [some a0, some a1, none] := rfl
theorem st_law_low {a0 a1 : V} : start ["_law_top", "_law_bottom", "_law_one", "_law_other_here"] [a0, a1] = [some a0, some a1, none, none] := rfl
theorem st_law_price {a0 : V} : start ["_law_pool_here", "_law_way", "_law_top", "_law_bottom"] [a0] = [some a0, none, none, none] := rfl
theorem st_law_tongue {a0 a1 a2 : V} : start ["_law_pool_here", "_law_most_signs", "_law_most_long", "_law_many", "_law_shift", "_law_step", "_law_k", "_law_letters", "_law_signs", "_law_letter", "_law_price_here", "_law_last", "_law_firsts", "_law_pairs", "_law_pair"] [a0, a1, a2] = [some a0, some a1, some a2, none, none, none, none, none, none, none, none, none, none, none, none] := rfl
theorem st_law_name {a0 a1 : V} : start ["_law_k", "_law_salt", "_law_letters", "_law_at", "_law_tell", "_law_more"] [a0, a1] = [some a0, some a1, none, none, none, none] := rfl
theorem st_law_wants {a0 a1 : V} : start ["_law_pool_here", "_law_many", "_law_salt", "_law_wants_here", "_law_k", "_law_way", "_law_count"] [a0, a1] = [some a0, some a1, none, none, none, none, none] := rfl
theorem st_law_texts {a0 a1 : V} : start ["_law_pool_here", "_law_many", "_law_found", "_law_k", "_law_at", "_law_step", "_law_size", "_law_j"] [a0, a1] = [some a0, some a1, none, none, none, none, none, none] := rfl
theorem st_law_case {a0 a1 : V} : start ["_law_script", "_law_most_things", "_law_pool_here", "_law_tongue_here", "_law_wants_here", "_law_book"] [a0, a1] = [some a0, some a1, none, none, none, none] := rfl
theorem st_law_same {a0 a1 : V} : start ["_law_found", "_law_due", "_law_k"] [a0, a1] = [some a0, some a1, none] := rfl
theorem st_law_copy {a0 : V} : start ["_law_case_here", "_law_tongue_here", "_law_wants_here", "_law_book", "_law_copied"] [a0] = [some a0, none, none, none, none] := rfl
theorem st_law_other {a0 a1 : V} : start ["_law_pool_here", "_law_case_here", "_law_tongue_here", "_law_wants_here", "_law_book", "_law_way", "_law_at", "_law_name_here", "_law_fresh", "_law_want"] [a0, a1] = [some a0, some a1, none, none, none, none, none, none, none, none] := rfl
theorem st_law_is_spoilt {a0 a1 : V} : start ["_law_told", "_law_case_here"] [a0, a1] = [some a0, some a1] := rfl
theorem st_law_called {a0 a1 : V} : start ["_law_script", "_law_case_here", "_law_tongue_here", "_law_wants_here", "_law_book", "_law_pool_here", "_law_word", "_law_want"] [a0, a1] = [some a0, some a1, none, none, none, none, none, none] := rfl
theorem st_law {a0 : V} : start ["_law_script", "_law_case_here", "_law_k", "_law_text", "_law_told"] [a0] = [some a0, none, none, none, none] := rfl
abbrev sm_CaseRows___init__ : Stmt := (Z.clsB (top 28)).getD 0 (.Pass ⟨0, 0, 0, 0⟩)
theorem stm_CaseRows___init__ {a0 : V} : start ["self"] [a0] = [some a0] := rfl
theorem scm_CaseRows___init__ : FnScope ["self"] ["self"] (defScope sm_CaseRows___init__) := ⟨rfl, rfl, rfl, by decide +kernel, rfl, by decide +kernel, by decide +kernel⟩
abbrev sm_CaseRows_takes_sign : Stmt := (Z.clsB (top 28)).getD 1 (.Pass ⟨0, 0, 0, 0⟩)
theorem stm_CaseRows_takes_sign {a0 a1 : V} : start ["self", "parts", "sign", "price", "last", "amid", "end"] [a0, a1] = [some a0, some a1, none, none, none, none, none] := rfl
theorem scm_CaseRows_takes_sign : FnScope ["self", "parts", "sign", "price", "last", "amid", "end"] ["self", "parts"] (defScope sm_CaseRows_takes_sign) := ⟨rfl, rfl, rfl, by decide +kernel, rfl, by decide +kernel, by decide +kernel⟩
abbrev sm_CaseRows_is_open : Stmt := (Z.clsB (top 28)).getD 2 (.Pass ⟨0, 0, 0, 0⟩)
theorem stm_CaseRows_is_open {a0 a1 a2 : V} : start ["self", "parts", "many", "sign"] [a0, a1, a2] = [some a0, some a1, some a2, none] := rfl
theorem scm_CaseRows_is_open : FnScope ["self", "parts", "many", "sign"] ["self", "parts", "many"] (defScope sm_CaseRows_is_open) := ⟨rfl, rfl, rfl, by decide +kernel, rfl, by decide +kernel, by decide +kernel⟩
abbrev sm_CaseRows_takes_first : Stmt := (Z.clsB (top 28)).getD 3 (.Pass ⟨0, 0, 0, 0⟩)
theorem stm_CaseRows_takes_first {a0 a1 : V} : start ["self", "parts"] [a0, a1] = [some a0, some a1] := rfl
theorem scm_CaseRows_takes_first : FnScope ["self", "parts"] ["self", "parts"] (defScope sm_CaseRows_takes_first) := ⟨rfl, rfl, rfl, by decide +kernel, rfl, by decide +kernel, by decide +kernel⟩
abbrev sm_CaseRows_takes_pair : Stmt := (Z.clsB (top 28)).getD 4 (.Pass ⟨0, 0, 0, 0⟩)
theorem stm_CaseRows_takes_pair {a0 a1 : V} : start ["self", "parts"] [a0, a1] = [some a0, some a1] := rfl
theorem scm_CaseRows_takes_pair : FnScope ["self", "parts"] ["self", "parts"] (defScope sm_CaseRows_takes_pair) := ⟨rfl, rfl, rfl, by decide +kernel, rfl, by decide +kernel, by decide +kernel⟩
abbrev sm_CaseRows_takes_longest : Stmt := (Z.clsB (top 28)).getD 5 (.Pass ⟨0, 0, 0, 0⟩)
theorem stm_CaseRows_takes_longest {a0 a1 : V} : start ["self", "parts", "number"] [a0, a1] = [some a0, some a1, none] := rfl
theorem scm_CaseRows_takes_longest : FnScope ["self", "parts", "number"] ["self", "parts"] (defScope sm_CaseRows_takes_longest) := ⟨rfl, rfl, rfl, by decide +kernel, rfl, by decide +kernel, by decide +kernel⟩
abbrev sm_CaseRows_takes_thing : Stmt := (Z.clsB (top 28)).getD 6 (.Pass ⟨0, 0, 0, 0⟩)
theorem stm_CaseRows_takes_thing {a0 a1 : V} : start ["self", "parts", "count", "name", "many"] [a0, a1] = [some a0, some a1, none, none, none] := rfl
theorem scm_CaseRows_takes_thing : FnScope ["self", "parts", "count", "name", "many"] ["self", "parts"] (defScope sm_CaseRows_takes_thing) := ⟨rfl, rfl, rfl, by decide +kernel, rfl, by decide +kernel, by decide +kernel⟩
abbrev sm_CaseRows_takes_word : Stmt := (Z.clsB (top 28)).getD 7 (.Pass ⟨0, 0, 0, 0⟩)
theorem stm_CaseRows_takes_word {a0 a1 : V} : start ["self", "parts"] [a0, a1] = [some a0, some a1] := rfl
theorem scm_CaseRows_takes_word : FnScope ["self", "parts"] ["self", "parts"] (defScope sm_CaseRows_takes_word) := ⟨rfl, rfl, rfl, by decide +kernel, rfl, by decide +kernel, by decide +kernel⟩
abbrev sm_CaseRows_takes : Stmt := (Z.clsB (top 28)).getD 8 (.Pass ⟨0, 0, 0, 0⟩)
theorem stm_CaseRows_takes {a0 a1 : V} : start ["self", "row", "kind", "parts"] [a0, a1] = [some a0, some a1, none, none] := rfl
theorem scm_CaseRows_takes : FnScope ["self", "row", "kind", "parts"] ["self", "row"] (defScope sm_CaseRows_takes) := ⟨rfl, rfl, rfl, by decide +kernel, rfl, by decide +kernel, by decide +kernel⟩
abbrev sm_CaseRows_lacks : Stmt := (Z.clsB (top 28)).getD 9 (.Pass ⟨0, 0, 0, 0⟩)
theorem stm_CaseRows_lacks {a0 : V} : start ["self"] [a0] = [some a0] := rfl
theorem scm_CaseRows_lacks : FnScope ["self"] ["self"] (defScope sm_CaseRows_lacks) := ⟨rfl, rfl, rfl, by decide +kernel, rfl, by decide +kernel, by decide +kernel⟩
abbrev sm_CaseRows_made : Stmt := (Z.clsB (top 28)).getD 10 (.Pass ⟨0, 0, 0, 0⟩)
theorem stm_CaseRows_made {a0 : V} : start ["self", "book"] [a0] = [some a0, none] := rfl
theorem scm_CaseRows_made : FnScope ["self", "book"] ["self"] (defScope sm_CaseRows_made) := ⟨rfl, rfl, rfl, by decide +kernel, rfl, by decide +kernel, by decide +kernel⟩
def fl_CaseRows (v0 v1 v2 v3 v4 v5 v6 : V) : List (Str × V) := [("signs", v0), ("letters", v1), ("firsts", v2), ("pairs", v3), ("longest", v4), ("wants", v5), ("words", v6)]
theorem gl_CaseRows_signs {v0 v1 v2 v3 v4 v5 v6 : V} : (fl_CaseRows v0 v1 v2 v3 v4 v5 v6).lookup ("signs" : Str) = some v0 := by rfl
theorem pt_CaseRows_signs {v0 v1 v2 v3 v4 v5 v6 y : V} : putF ("signs" : Str) y (fl_CaseRows v0 v1 v2 v3 v4 v5 v6) = fl_CaseRows y v1 v2 v3 v4 v5 v6 := by rfl
theorem gl_CaseRows_letters {v0 v1 v2 v3 v4 v5 v6 : V} : (fl_CaseRows v0 v1 v2 v3 v4 v5 v6).lookup ("letters" : Str) = some v1 := by rfl
theorem pt_CaseRows_letters {v0 v1 v2 v3 v4 v5 v6 y : V} : putF ("letters" : Str) y (fl_CaseRows v0 v1 v2 v3 v4 v5 v6) = fl_CaseRows v0 y v2 v3 v4 v5 v6 := by rfl
theorem gl_CaseRows_firsts {v0 v1 v2 v3 v4 v5 v6 : V} : (fl_CaseRows v0 v1 v2 v3 v4 v5 v6).lookup ("firsts" : Str) = some v2 := by rfl
theorem pt_CaseRows_firsts {v0 v1 v2 v3 v4 v5 v6 y : V} : putF ("firsts" : Str) y (fl_CaseRows v0 v1 v2 v3 v4 v5 v6) = fl_CaseRows v0 v1 y v3 v4 v5 v6 := by rfl
theorem gl_CaseRows_pairs {v0 v1 v2 v3 v4 v5 v6 : V} : (fl_CaseRows v0 v1 v2 v3 v4 v5 v6).lookup ("pairs" : Str) = some v3 := by rfl
theorem pt_CaseRows_pairs {v0 v1 v2 v3 v4 v5 v6 y : V} : putF ("pairs" : Str) y (fl_CaseRows v0 v1 v2 v3 v4 v5 v6) = fl_CaseRows v0 v1 v2 y v4 v5 v6 := by rfl
theorem gl_CaseRows_longest {v0 v1 v2 v3 v4 v5 v6 : V} : (fl_CaseRows v0 v1 v2 v3 v4 v5 v6).lookup ("longest" : Str) = some v4 := by rfl
theorem pt_CaseRows_longest {v0 v1 v2 v3 v4 v5 v6 y : V} : putF ("longest" : Str) y (fl_CaseRows v0 v1 v2 v3 v4 v5 v6) = fl_CaseRows v0 v1 v2 v3 y v5 v6 := by rfl
theorem gl_CaseRows_wants {v0 v1 v2 v3 v4 v5 v6 : V} : (fl_CaseRows v0 v1 v2 v3 v4 v5 v6).lookup ("wants" : Str) = some v5 := by rfl
theorem pt_CaseRows_wants {v0 v1 v2 v3 v4 v5 v6 y : V} : putF ("wants" : Str) y (fl_CaseRows v0 v1 v2 v3 v4 v5 v6) = fl_CaseRows v0 v1 v2 v3 v4 y v6 := by rfl
theorem gl_CaseRows_words {v0 v1 v2 v3 v4 v5 v6 : V} : (fl_CaseRows v0 v1 v2 v3 v4 v5 v6).lookup ("words" : Str) = some v6 := by rfl
theorem pt_CaseRows_words {v0 v1 v2 v3 v4 v5 v6 y : V} : putF ("words" : Str) y (fl_CaseRows v0 v1 v2 v3 v4 v5 v6) = fl_CaseRows v0 v1 v2 v3 v4 v5 y := by rfl
theorem ml_CaseRows___init__ {v0 v1 v2 v3 v4 v5 v6 : V} : (fl_CaseRows v0 v1 v2 v3 v4 v5 v6).lookup ("__init__" : Str) = none := by rfl
theorem ml_CaseRows_takes_sign {v0 v1 v2 v3 v4 v5 v6 : V} : (fl_CaseRows v0 v1 v2 v3 v4 v5 v6).lookup ("takes_sign" : Str) = none := by rfl
theorem ml_CaseRows_is_open {v0 v1 v2 v3 v4 v5 v6 : V} : (fl_CaseRows v0 v1 v2 v3 v4 v5 v6).lookup ("is_open" : Str) = none := by rfl
theorem ml_CaseRows_takes_first {v0 v1 v2 v3 v4 v5 v6 : V} : (fl_CaseRows v0 v1 v2 v3 v4 v5 v6).lookup ("takes_first" : Str) = none := by rfl
theorem ml_CaseRows_takes_pair {v0 v1 v2 v3 v4 v5 v6 : V} : (fl_CaseRows v0 v1 v2 v3 v4 v5 v6).lookup ("takes_pair" : Str) = none := by rfl
theorem ml_CaseRows_takes_longest {v0 v1 v2 v3 v4 v5 v6 : V} : (fl_CaseRows v0 v1 v2 v3 v4 v5 v6).lookup ("takes_longest" : Str) = none := by rfl
theorem ml_CaseRows_takes_thing {v0 v1 v2 v3 v4 v5 v6 : V} : (fl_CaseRows v0 v1 v2 v3 v4 v5 v6).lookup ("takes_thing" : Str) = none := by rfl
theorem ml_CaseRows_takes_word {v0 v1 v2 v3 v4 v5 v6 : V} : (fl_CaseRows v0 v1 v2 v3 v4 v5 v6).lookup ("takes_word" : Str) = none := by rfl
theorem ml_CaseRows_takes {v0 v1 v2 v3 v4 v5 v6 : V} : (fl_CaseRows v0 v1 v2 v3 v4 v5 v6).lookup ("takes" : Str) = none := by rfl
theorem ml_CaseRows_lacks {v0 v1 v2 v3 v4 v5 v6 : V} : (fl_CaseRows v0 v1 v2 v3 v4 v5 v6).lookup ("lacks" : Str) = none := by rfl
theorem ml_CaseRows_made {v0 v1 v2 v3 v4 v5 v6 : V} : (fl_CaseRows v0 v1 v2 v3 v4 v5 v6).lookup ("made" : Str) = none := by rfl
theorem ln_CaseRows {v0 v1 v2 v3 v4 v5 v6 : V} : (fl_CaseRows v0 v1 v2 v3 v4 v5 v6).length < 1000 := by show 7 < 1000; decide
abbrev si_NoTongue : Stmt := (Z.clsB (top 3)).getD 0 (.Pass ⟨0, 0, 0, 0⟩)
theorem sti_NoTongue {a0 a1 : V} : start ["self", "part"] [a0, a1] = [some a0, some a1] := rfl
theorem sci_NoTongue : FnScope ["self", "part"] ["self", "part"] (defScope si_NoTongue) := ⟨rfl, rfl, rfl, by decide +kernel, rfl, by decide +kernel, by decide +kernel⟩
abbrev si_NoWants : Stmt := (Z.clsB (top 4)).getD 0 (.Pass ⟨0, 0, 0, 0⟩)
theorem sti_NoWants {a0 a1 : V} : start ["self", "number"] [a0, a1] = [some a0, some a1] := rfl
theorem sci_NoWants : FnScope ["self", "number"] ["self", "number"] (defScope si_NoWants) := ⟨rfl, rfl, rfl, by decide +kernel, rfl, by decide +kernel, by decide +kernel⟩
abbrev si_NoText : Stmt := (Z.clsB (top 5)).getD 0 (.Pass ⟨0, 0, 0, 0⟩)
theorem sti_NoText {a0 a1 : V} : start ["self", "row"] [a0, a1] = [some a0, some a1] := rfl
theorem sci_NoText : FnScope ["self", "row"] ["self", "row"] (defScope si_NoText) := ⟨rfl, rfl, rfl, by decide +kernel, rfl, by decide +kernel, by decide +kernel⟩
abbrev ecs : List Str := ["DearError", "NoNumber", "NoTongue", "NoWants", "NoText"]
abbrev ems : List (Str × Str) := [("NoTongue", "part"), ("NoWants", "number"), ("NoText", "row")]
abbrev ens : List Str := ["NoNumber"]
structure Txt (K : PySem.W.Frag) (mg : Str → Option Value) : Prop where
  ex : Z.Exs K mg "DearError" ecs ems ens
  i_NoTongue : Z.AtM K ("NoTongue", some "__init__") "__init__" "NoTongue.__init__" si_NoTongue
  i_NoWants : Z.AtM K ("NoWants", some "__init__") "__init__" "NoWants.__init__" si_NoWants
  i_NoText : Z.AtM K ("NoText", some "__init__") "__init__" "NoText.__init__" si_NoText
  d_is_whole : Z.At K mg "is_whole" "is_whole" s_is_whole []
  d_is_name : Z.At K mg "is_name" "is_name" s_is_name []
  d_divisor : Z.At K mg "divisor" "divisor" s_divisor []
  d_is_fraction : Z.At K mg "is_fraction" "is_fraction" s_is_fraction []
  d_lowest : Z.At K mg "lowest" "lowest" s_lowest []
  d_fraction : Z.At K mg "fraction" "fraction" s_fraction [.int 1]
  d_whole_in : Z.At K mg "whole_in" "whole_in" s_whole_in []
  d_fraction_in : Z.At K mg "fraction_in" "fraction_in" s_fraction_in []
  d_price_in : Z.At K mg "price_in" "price_in" s_price_in []
  d_read_case : Z.At K mg "read_case" "read_case" s_read_case []
  d_is_price : Z.At K mg "is_price" "is_price" s_is_price []
  d_is_letter : Z.At K mg "is_letter" "is_letter" s_is_letter []
  d_is_sign : Z.At K mg "is_sign" "is_sign" s_is_sign []
  d_are_signs : Z.At K mg "are_signs" "are_signs" s_are_signs []
  d_are_unlike_texts : Z.At K mg "are_unlike_texts" "are_unlike_texts" s_are_unlike_texts []
  d_look_at_tongue : Z.At K mg "look_at_tongue" "look_at_tongue" s_look_at_tongue []
  d_is_want : Z.At K mg "is_want" "is_want" s_is_want []
  d_look_at_wants : Z.At K mg "look_at_wants" "look_at_wants" s_look_at_wants []
  d_show_fraction : Z.At K mg "show_fraction" "show_fraction" s_show_fraction []
  d_sign_row : Z.At K mg "sign_row" "sign_row" s_sign_row []
  d_write_case : Z.At K mg "write_case" "write_case" s_write_case []
  d_law_pool : Z.At K mg "_law_pool" "_law_pool" s_law_pool []
  d_law_take : Z.At K mg "_law_take" "_law_take" s_law_take []
  d_law_low : Z.At K mg "_law_low" "_law_low" s_law_low []
  d_law_price : Z.At K mg "_law_price" "_law_price" s_law_price []
  d_law_tongue : Z.At K mg "_law_tongue" "_law_tongue" s_law_tongue []
  d_law_name : Z.At K mg "_law_name" "_law_name" s_law_name []
  d_law_wants : Z.At K mg "_law_wants" "_law_wants" s_law_wants []
  d_law_texts : Z.At K mg "_law_texts" "_law_texts" s_law_texts []
  d_law_case : Z.At K mg "_law_case" "_law_case" s_law_case []
  d_law_same : Z.At K mg "_law_same" "_law_same" s_law_same []
  d_law_copy : Z.At K mg "_law_copy" "_law_copy" s_law_copy []
  d_law_other : Z.At K mg "_law_other" "_law_other" s_law_other []
  d_law_is_spoilt : Z.At K mg "_law_is_spoilt" "_law_is_spoilt" s_law_is_spoilt []
  d_law_called : Z.At K mg "_law_called" "_law_called" s_law_called []
  d_law : Z.At K mg "law" "law" s_law []
  d_CaseRows___init__ : Z.AtM K ("CaseRows", some "__init__") "__init__" "CaseRows.__init__" sm_CaseRows___init__
  d_CaseRows_takes_sign : Z.AtM K ("CaseRows", some "takes_sign") "takes_sign" "CaseRows.takes_sign" sm_CaseRows_takes_sign
  d_CaseRows_is_open : Z.AtM K ("CaseRows", some "is_open") "is_open" "CaseRows.is_open" sm_CaseRows_is_open
  d_CaseRows_takes_first : Z.AtM K ("CaseRows", some "takes_first") "takes_first" "CaseRows.takes_first" sm_CaseRows_takes_first
  d_CaseRows_takes_pair : Z.AtM K ("CaseRows", some "takes_pair") "takes_pair" "CaseRows.takes_pair" sm_CaseRows_takes_pair
  d_CaseRows_takes_longest : Z.AtM K ("CaseRows", some "takes_longest") "takes_longest" "CaseRows.takes_longest" sm_CaseRows_takes_longest
  d_CaseRows_takes_thing : Z.AtM K ("CaseRows", some "takes_thing") "takes_thing" "CaseRows.takes_thing" sm_CaseRows_takes_thing
  d_CaseRows_takes_word : Z.AtM K ("CaseRows", some "takes_word") "takes_word" "CaseRows.takes_word" sm_CaseRows_takes_word
  d_CaseRows_takes : Z.AtM K ("CaseRows", some "takes") "takes" "CaseRows.takes" sm_CaseRows_takes
  d_CaseRows_lacks : Z.AtM K ("CaseRows", some "lacks") "lacks" "CaseRows.lacks" sm_CaseRows_lacks
  d_CaseRows_made : Z.AtM K ("CaseRows", some "made") "made" "CaseRows.made" sm_CaseRows_made
  l_CaseRows : Cls K (He.ga K "CaseRows")
  mk_CaseRows : Mk K (He.ga K "CaseRows") (He.ma K (He.ga K "CaseRows") "__init__")
  n_CaseRows_signs : NoAttr K (He.ga K "CaseRows") "signs"
  n_CaseRows_letters : NoAttr K (He.ga K "CaseRows") "letters"
  n_CaseRows_firsts : NoAttr K (He.ga K "CaseRows") "firsts"
  n_CaseRows_pairs : NoAttr K (He.ga K "CaseRows") "pairs"
  n_CaseRows_longest : NoAttr K (He.ga K "CaseRows") "longest"
  n_CaseRows_wants : NoAttr K (He.ga K "CaseRows") "wants"
  n_CaseRows_words : NoAttr K (He.ga K "CaseRows") "words"
  m_CaseRows_takes_sign : Meth K (He.ga K "CaseRows") "takes_sign" (He.ma K (He.ga K "CaseRows") "takes_sign")
  m_CaseRows_is_open : Meth K (He.ga K "CaseRows") "is_open" (He.ma K (He.ga K "CaseRows") "is_open")
  m_CaseRows_takes_first : Meth K (He.ga K "CaseRows") "takes_first" (He.ma K (He.ga K "CaseRows") "takes_first")
  m_CaseRows_takes_pair : Meth K (He.ga K "CaseRows") "takes_pair" (He.ma K (He.ga K "CaseRows") "takes_pair")
  m_CaseRows_takes_longest : Meth K (He.ga K "CaseRows") "takes_longest" (He.ma K (He.ga K "CaseRows") "takes_longest")
  m_CaseRows_takes_thing : Meth K (He.ga K "CaseRows") "takes_thing" (He.ma K (He.ga K "CaseRows") "takes_thing")
  m_CaseRows_takes_word : Meth K (He.ga K "CaseRows") "takes_word" (He.ma K (He.ga K "CaseRows") "takes_word")
  m_CaseRows_takes : Meth K (He.ga K "CaseRows") "takes" (He.ma K (He.ga K "CaseRows") "takes")
  m_CaseRows_lacks : Meth K (He.ga K "CaseRows") "lacks" (He.ma K (He.ga K "CaseRows") "lacks")
  m_CaseRows_made : Meth K (He.ga K "CaseRows") "made" (He.ma K (He.ga K "CaseRows") "made")
  b_abs : mg "abs" = none
  b_all : mg "all" = none
  b_bool : mg "bool" = none
  b_enumerate : mg "enumerate" = none
  b_int : mg "int" = none
  b_isinstance : mg "isinstance" = none
  b_len : mg "len" = none
  b_list : mg "list" = none
  b_max : mg "max" = none
  b_min : mg "min" = none
  b_range : mg "range" = none
  b_set : mg "set" = none
  b_str : mg "str" = none
  b_tuple : mg "tuple" = none
  c_LETTERS_numbers : ∃ u, mg "LETTERS_numbers" = some u ∧ RelV (.str "abcdefghijklmnopqrstuvwxyz") u
  c_LONGEST_numbers : ∃ u, mg "LONGEST_numbers" = some u ∧ RelV (.int 8) u
  c_FIGURES : ∃ u, mg "FIGURES" = some u ∧ RelV (.str "0123456789") u
  c_LETTERS_casereader : ∃ u, mg "LETTERS_casereader" = some u ∧ RelV (.str "abcdefghijklmnopqrstuvwxyz") u
  c_PRICE_FIGURES : ∃ u, mg "PRICE_FIGURES" = some u ∧ RelV (.int 9) u
  c_COUNT_FIGURES : ∃ u, mg "COUNT_FIGURES" = some u ∧ RelV (.int 10) u
  c_FEWEST_SIGNS_casereader : ∃ u, mg "FEWEST_SIGNS_casereader" = some u ∧ RelV (.int 2) u
  c_MOST_SIGNS_casereader : ∃ u, mg "MOST_SIGNS_casereader" = some u ∧ RelV (.int 6) u
  c_GREATEST_LONGEST : ∃ u, mg "GREATEST_LONGEST" = some u ∧ RelV (.int 8) u
  c_MOST_THINGS_casereader : ∃ u, mg "MOST_THINGS_casereader" = some u ∧ RelV (.int 20) u
  c_GREATEST_COUNT_casereader : ∃ u, mg "GREATEST_COUNT_casereader" = some u ∧ RelV (.int 1000000000) u
  c_LETTERS_tongues : ∃ u, mg "LETTERS_tongues" = some u ∧ RelV (.str "abcdefghijklmnopqrstuvwxyz") u
  c_FEWEST_SIGNS_tongues : ∃ u, mg "FEWEST_SIGNS_tongues" = some u ∧ RelV (.int 2) u
  c_MOST_SIGNS_tongues : ∃ u, mg "MOST_SIGNS_tongues" = some u ∧ RelV (.int 6) u
  c_LONGEST_tongues : ∃ u, mg "LONGEST_tongues" = some u ∧ RelV (.int 8) u
  c_MOST_THINGS_wants : ∃ u, mg "MOST_THINGS_wants" = some u ∧ RelV (.int 20) u
  c_GREATEST_COUNT_wants : ∃ u, mg "GREATEST_COUNT_wants" = some u ∧ RelV (.int 1000000000) u
  k_DearError : mg "DearError" = some (.ref (He.ga K "DearError"))
  k_NoNumber : mg "NoNumber" = some (.ref (He.ga K "NoNumber"))
  k_NoTongue : mg "NoTongue" = some (.ref (He.ga K "NoTongue"))
  k_NoWants : mg "NoWants" = some (.ref (He.ga K "NoWants"))
  k_NoText : mg "NoText" = some (.ref (He.ga K "NoText"))
  k_CaseRows : mg "CaseRows" = some (.ref (He.ga K "CaseRows"))
/-! ### the head: facts by names, the run -/
def dd_is_whole : He.DefD := ⟨("is_whole", none), "is_whole", "is_whole", defArgs s_is_whole, defBody s_is_whole, defScope s_is_whole, [], []⟩
def dd_is_name : He.DefD := ⟨("is_name", none), "is_name", "is_name", defArgs s_is_name, defBody s_is_name, defScope s_is_name, [], []⟩
def dd_divisor : He.DefD := ⟨("divisor", none), "divisor", "divisor", defArgs s_divisor, defBody s_divisor, defScope s_divisor, [], []⟩
def dd_is_fraction : He.DefD := ⟨("is_fraction", none), "is_fraction", "is_fraction", defArgs s_is_fraction, defBody s_is_fraction, defScope s_is_fraction, [], []⟩
def dd_lowest : He.DefD := ⟨("lowest", none), "lowest", "lowest", defArgs s_lowest, defBody s_lowest, defScope s_lowest, [], []⟩
def dd_fraction : He.DefD := ⟨("fraction", none), "fraction", "fraction", defArgs s_fraction, defBody s_fraction, defScope s_fraction, [.int 1], []⟩
def dd_whole_in : He.DefD := ⟨("whole_in", none), "whole_in", "whole_in", defArgs s_whole_in, defBody s_whole_in, defScope s_whole_in, [], []⟩
def dd_fraction_in : He.DefD := ⟨("fraction_in", none), "fraction_in", "fraction_in", defArgs s_fraction_in, defBody s_fraction_in, defScope s_fraction_in, [], []⟩
def dd_price_in : He.DefD := ⟨("price_in", none), "price_in", "price_in", defArgs s_price_in, defBody s_price_in, defScope s_price_in, [], []⟩
def dd_read_case : He.DefD := ⟨("read_case", none), "read_case", "read_case", defArgs s_read_case, defBody s_read_case, defScope s_read_case, [], []⟩
def dd_is_price : He.DefD := ⟨("is_price", none), "is_price", "is_price", defArgs s_is_price, defBody s_is_price, defScope s_is_price, [], []⟩
def dd_is_letter : He.DefD := ⟨("is_letter", none), "is_letter", "is_letter", defArgs s_is_letter, defBody s_is_letter, defScope s_is_letter, [], []⟩
def dd_is_sign : He.DefD := ⟨("is_sign", none), "is_sign", "is_sign", defArgs s_is_sign, defBody s_is_sign, defScope s_is_sign, [], []⟩
def dd_are_signs : He.DefD := ⟨("are_signs", none), "are_signs", "are_signs", defArgs s_are_signs, defBody s_are_signs, defScope s_are_signs, [], []⟩
def dd_are_unlike_texts : He.DefD := ⟨("are_unlike_texts", none), "are_unlike_texts", "are_unlike_texts", defArgs s_are_unlike_texts, defBody s_are_unlike_texts, defScope s_are_unlike_texts, [], []⟩
def dd_look_at_tongue : He.DefD := ⟨("look_at_tongue", none), "look_at_tongue", "look_at_tongue", defArgs s_look_at_tongue, defBody s_look_at_tongue, defScope s_look_at_tongue, [], []⟩
def dd_is_want : He.DefD := ⟨("is_want", none), "is_want", "is_want", defArgs s_is_want, defBody s_is_want, defScope s_is_want, [], []⟩
def dd_look_at_wants : He.DefD := ⟨("look_at_wants", none), "look_at_wants", "look_at_wants", defArgs s_look_at_wants, defBody s_look_at_wants, defScope s_look_at_wants, [], []⟩
def dd_show_fraction : He.DefD := ⟨("show_fraction", none), "show_fraction", "show_fraction", defArgs s_show_fraction, defBody s_show_fraction, defScope s_show_fraction, [], []⟩
def dd_sign_row : He.DefD := ⟨("sign_row", none), "sign_row", "sign_row", defArgs s_sign_row, defBody s_sign_row, defScope s_sign_row, [], []⟩
def dd_write_case : He.DefD := ⟨("write_case", none), "write_case", "write_case", defArgs s_write_case, defBody s_write_case, defScope s_write_case, [], []⟩
def dd_law_pool : He.DefD := ⟨("_law_pool", none), "_law_pool", "_law_pool", defArgs s_law_pool, defBody s_law_pool, defScope s_law_pool, [], []⟩
def dd_law_take : He.DefD := ⟨("_law_take", none), "_law_take", "_law_take", defArgs s_law_take, defBody s_law_take, defScope s_law_take, [], []⟩
def dd_law_low : He.DefD := ⟨("_law_low", none), "_law_low", "_law_low", defArgs s_law_low, defBody s_law_low, defScope s_law_low, [], []⟩
def dd_law_price : He.DefD := ⟨("_law_price", none), "_law_price", "_law_price", defArgs s_law_price, defBody s_law_price, defScope s_law_price, [], []⟩
def dd_law_tongue : He.DefD := ⟨("_law_tongue", none), "_law_tongue", "_law_tongue", defArgs s_law_tongue, defBody s_law_tongue, defScope s_law_tongue, [], []⟩
def dd_law_name : He.DefD := ⟨("_law_name", none), "_law_name", "_law_name", defArgs s_law_name, defBody s_law_name, defScope s_law_name, [], []⟩
def dd_law_wants : He.DefD := ⟨("_law_wants", none), "_law_wants", "_law_wants", defArgs s_law_wants, defBody s_law_wants, defScope s_law_wants, [], []⟩
def dd_law_texts : He.DefD := ⟨("_law_texts", none), "_law_texts", "_law_texts", defArgs s_law_texts, defBody s_law_texts, defScope s_law_texts, [], []⟩
def dd_law_case : He.DefD := ⟨("_law_case", none), "_law_case", "_law_case", defArgs s_law_case, defBody s_law_case, defScope s_law_case, [], []⟩
def dd_law_same : He.DefD := ⟨("_law_same", none), "_law_same", "_law_same", defArgs s_law_same, defBody s_law_same, defScope s_law_same, [], []⟩
def dd_law_copy : He.DefD := ⟨("_law_copy", none), "_law_copy", "_law_copy", defArgs s_law_copy, defBody s_law_copy, defScope s_law_copy, [], []⟩
def dd_law_other : He.DefD := ⟨("_law_other", none), "_law_other", "_law_other", defArgs s_law_other, defBody s_law_other, defScope s_law_other, [], []⟩
def dd_law_is_spoilt : He.DefD := ⟨("_law_is_spoilt", none), "_law_is_spoilt", "_law_is_spoilt", defArgs s_law_is_spoilt, defBody s_law_is_spoilt, defScope s_law_is_spoilt, [], []⟩
def dd_law_called : He.DefD := ⟨("_law_called", none), "_law_called", "_law_called", defArgs s_law_called, defBody s_law_called, defScope s_law_called, [], []⟩
def dd_law : He.DefD := ⟨("law", none), "law", "law", defArgs s_law, defBody s_law, defScope s_law, [], []⟩
def di_NoTongue : He.DefD := ⟨("NoTongue", some "__init__"), "__init__", "NoTongue.__init__", defArgs si_NoTongue, defBody si_NoTongue, defScope si_NoTongue, [], []⟩
def di_NoWants : He.DefD := ⟨("NoWants", some "__init__"), "__init__", "NoWants.__init__", defArgs si_NoWants, defBody si_NoWants, defScope si_NoWants, [], []⟩
def di_NoText : He.DefD := ⟨("NoText", some "__init__"), "__init__", "NoText.__init__", defArgs si_NoText, defBody si_NoText, defScope si_NoText, [], []⟩
def dm_CaseRows___init__ : He.DefD := ⟨("CaseRows", some "__init__"), "__init__", "CaseRows.__init__", defArgs sm_CaseRows___init__, defBody sm_CaseRows___init__, defScope sm_CaseRows___init__, [], []⟩
def dm_CaseRows_takes_sign : He.DefD := ⟨("CaseRows", some "takes_sign"), "takes_sign", "CaseRows.takes_sign", defArgs sm_CaseRows_takes_sign, defBody sm_CaseRows_takes_sign, defScope sm_CaseRows_takes_sign, [], []⟩
def dm_CaseRows_is_open : He.DefD := ⟨("CaseRows", some "is_open"), "is_open", "CaseRows.is_open", defArgs sm_CaseRows_is_open, defBody sm_CaseRows_is_open, defScope sm_CaseRows_is_open, [], []⟩
def dm_CaseRows_takes_first : He.DefD := ⟨("CaseRows", some "takes_first"), "takes_first", "CaseRows.takes_first", defArgs sm_CaseRows_takes_first, defBody sm_CaseRows_takes_first, defScope sm_CaseRows_takes_first, [], []⟩
def dm_CaseRows_takes_pair : He.DefD := ⟨("CaseRows", some "takes_pair"), "takes_pair", "CaseRows.takes_pair", defArgs sm_CaseRows_takes_pair, defBody sm_CaseRows_takes_pair, defScope sm_CaseRows_takes_pair, [], []⟩
def dm_CaseRows_takes_longest : He.DefD := ⟨("CaseRows", some "takes_longest"), "takes_longest", "CaseRows.takes_longest", defArgs sm_CaseRows_takes_longest, defBody sm_CaseRows_takes_longest, defScope sm_CaseRows_takes_longest, [], []⟩
def dm_CaseRows_takes_thing : He.DefD := ⟨("CaseRows", some "takes_thing"), "takes_thing", "CaseRows.takes_thing", defArgs sm_CaseRows_takes_thing, defBody sm_CaseRows_takes_thing, defScope sm_CaseRows_takes_thing, [], []⟩
def dm_CaseRows_takes_word : He.DefD := ⟨("CaseRows", some "takes_word"), "takes_word", "CaseRows.takes_word", defArgs sm_CaseRows_takes_word, defBody sm_CaseRows_takes_word, defScope sm_CaseRows_takes_word, [], []⟩
def dm_CaseRows_takes : He.DefD := ⟨("CaseRows", some "takes"), "takes", "CaseRows.takes", defArgs sm_CaseRows_takes, defBody sm_CaseRows_takes, defScope sm_CaseRows_takes, [], []⟩
def dm_CaseRows_lacks : He.DefD := ⟨("CaseRows", some "lacks"), "lacks", "CaseRows.lacks", defArgs sm_CaseRows_lacks, defBody sm_CaseRows_lacks, defScope sm_CaseRows_lacks, [], []⟩
def dm_CaseRows_made : He.DefD := ⟨("CaseRows", some "made"), "made", "CaseRows.made", defArgs sm_CaseRows_made, defBody sm_CaseRows_made, defScope sm_CaseRows_made, [], []⟩
def fn : List He.DefD := [dd_is_whole, dd_is_name, dd_divisor, dd_is_fraction, dd_lowest, dd_fraction, dd_whole_in, dd_fraction_in, dd_price_in, dd_read_case, dd_is_price, dd_is_letter, dd_is_sign, dd_are_signs, dd_are_unlike_texts, dd_look_at_tongue, dd_is_want, dd_look_at_wants, dd_show_fraction, dd_sign_row, dd_write_case, dd_law_pool, dd_law_take, dd_law_low, dd_law_price, dd_law_tongue, dd_law_name, dd_law_wants, dd_law_texts, dd_law_case, dd_law_same, dd_law_copy, dd_law_other, dd_law_is_spoilt, dd_law_called, dd_law, di_NoTongue, di_NoWants, di_NoText, dm_CaseRows___init__, dm_CaseRows_takes_sign, dm_CaseRows_is_open, dm_CaseRows_takes_first, dm_CaseRows_takes_pair, dm_CaseRows_takes_longest, dm_CaseRows_takes_thing, dm_CaseRows_takes_word, dm_CaseRows_takes, dm_CaseRows_lacks, dm_CaseRows_made]
def fa : List He.Fa := [.glo "is_whole", .glo "is_name", .glo "divisor", .glo "is_fraction", .glo "lowest", .glo "fraction", .glo "whole_in", .glo "fraction_in", .glo "price_in", .glo "read_case", .glo "is_price", .glo "is_letter", .glo "is_sign", .glo "are_signs", .glo "are_unlike_texts", .glo "look_at_tongue", .glo "is_want", .glo "look_at_wants", .glo "show_fraction", .glo "sign_row", .glo "write_case", .glo "_law_pool", .glo "_law_take", .glo "_law_low", .glo "_law_price", .glo "_law_tongue", .glo "_law_name", .glo "_law_wants", .glo "_law_texts", .glo "_law_case", .glo "_law_same", .glo "_law_copy", .glo "_law_other", .glo "_law_is_spoilt", .glo "_law_called", .glo "law", .free "abs", .free "all", .free "bool", .free "enumerate", .free "int", .free "isinstance", .free "len", .free "list", .free "max", .free "min", .free "range", .free "set", .free "str", .free "tuple", .str "LETTERS_numbers" "abcdefghijklmnopqrstuvwxyz", .int "LONGEST_numbers" 8, .str "FIGURES" "0123456789", .str "LETTERS_casereader" "abcdefghijklmnopqrstuvwxyz", .int "PRICE_FIGURES" 9, .int "COUNT_FIGURES" 10, .int "FEWEST_SIGNS_casereader" 2, .int "MOST_SIGNS_casereader" 6, .int "GREATEST_LONGEST" 8, .int "MOST_THINGS_casereader" 20, .int "GREATEST_COUNT_casereader" 1000000000, .str "LETTERS_tongues" "abcdefghijklmnopqrstuvwxyz", .int "FEWEST_SIGNS_tongues" 2, .int "MOST_SIGNS_tongues" 6, .int "LONGEST_tongues" 8, .int "MOST_THINGS_wants" 20, .int "GREATEST_COUNT_wants" 1000000000, .glo "DearError", .glo "NoNumber", .glo "NoTongue", .glo "NoWants", .glo "NoText", .glo "CaseRows", .cls "CaseRows", .mkr "CaseRows", .noat "CaseRows" "signs", .noat "CaseRows" "letters", .noat "CaseRows" "firsts", .noat "CaseRows" "pairs", .noat "CaseRows" "longest", .noat "CaseRows" "wants", .noat "CaseRows" "words", .meth "CaseRows" "takes_sign", .meth "CaseRows" "is_open", .meth "CaseRows" "takes_first", .meth "CaseRows" "takes_pair", .meth "CaseRows" "takes_longest", .meth "CaseRows" "takes_thing", .meth "CaseRows" "takes_word", .meth "CaseRows" "takes", .meth "CaseRows" "lacks", .meth "CaseRows" "made"]
abbrev R : PySem.W.OpenRow := PySem.W.OpenLaw.row PySem.Challenge.rw_dearsigns_k64_whole_cases_read_back
def exb : PySem.W.Frag → Bool := Z.exsB "DearError" ecs ems ens
abbrev hk : PySem.W.Hook := Z.hookE 5 fa fn exb
def ob (s : PySem.W.SharedT) : Z.AlE := Z.obsE 5 fa fn exb (HandSHeadRun.getT s)
theorem ob_eq (s : PySem.W.SharedT) : ob s = hk.obs s.abs := Z.obsE_eq (HandSHeadRun.getT_eq s)
def loose0 : List Str := ["DearError", "NoNumber", "NoTongue", "NoWants", "NoText", "LETTERS_numbers", "LONGEST_numbers", "is_whole", "is_name", "divisor", "is_fraction", "lowest", "fraction", "FIGURES", "LETTERS_casereader", "PRICE_FIGURES", "COUNT_FIGURES", "FEWEST_SIGNS_casereader", "MOST_SIGNS_casereader", "GREATEST_LONGEST", "MOST_THINGS_casereader", "GREATEST_COUNT_casereader", "whole_in", "fraction_in", "price_in", "CaseRows", "read_case", "LETTERS_tongues", "FEWEST_SIGNS_tongues", "MOST_SIGNS_tongues"]
def loose1 : List Str := ["LONGEST_tongues", "is_price", "is_letter", "is_sign", "are_signs", "are_unlike_texts", "look_at_tongue", "MOST_THINGS_wants", "GREATEST_COUNT_wants", "is_want", "look_at_wants", "show_fraction", "sign_row", "write_case", "_law_pool", "_law_take", "_law_low", "_law_price", "_law_tongue", "_law_name", "_law_wants", "_law_texts", "_law_case", "_law_same", "_law_copy", "_law_other", "_law_is_spoilt", "_law_called"]
def loose : List Str := loose0 ++ loose1
set_option maxHeartbeats 0 in
theorem run (w : World) : HandSHeadRun.RunEq R (PySem.W.view R.prog [65]) hk ob 12000 loose w := by
  intro os
  kernel_rfl

section
variable {P : Program} {w : World} {K : PySem.W.Frag} {mg : Str → Option Value} {base : Heap}
/-! ### names and wants -/
def low (c : Nat) : Bool := decide (97 ≤ c ∧ c ≤ 122)
theorem low_mem (c : Nat) : decide (c ∈ (Str.ofString "abcdefghijklmnopqrstuvwxyz").cps.toList) = low c := by
  have e : (Str.ofString "abcdefghijklmnopqrstuvwxyz").cps.toList = [97, 98, 99, 100, 101, 102, 103, 104, 105, 106, 107, 108, 109, 110, 111, 112, 113, 114, 115, 116, 117, 118, 119, 120, 121, 122] := by decide +kernel
  rw [e]
  unfold low
  rw [decide_eq_decide]
  simp only [List.mem_cons, List.not_mem_nil, or_false]
  omega
def nameOk (z : Str) : Bool := decide (1 ≤ (tl z).length ∧ (tl z).length ≤ 8) && (tl z).all low
def isName : PyData → Bool
  | .str z => nameOk z
  | _ => false
def isWhole : PyData → Bool
  | .int _ => true
  | _ => false
def sp_is_whole : Sp := fun vs H Q _ => ∃ x d, vs = [x] ∧ Dq H x d ∧ Q (.bl (isWhole d)) H
theorem ok_is_whole (T : Txt K mg) : Z.C0 P w K mg base 1 "is_whole" (sp_is_whole) := by
  refine T.d_is_whole.c0 sc_is_whole (fun vs H Q E h => ?_) (Z.bd0 fun _ _ _ _ _ _ us hl => match us, hl with | [_], _ => rfl) (fun f cdv A outer s H vs Q E hr h => ⟨_, (pss_one (ps_ret (pe_and (pe_callB (k_isi K) rfl T.b_isinstance (by decide +kernel) (pa_cons (pv 0) (pa_cons (pe_bltn (v := .ty "int") rfl T.b_int (by decide +kernel) rfl) pa_nil))) (pe_one (pe_not (pe_callB (k_isi K) rfl T.b_isinstance (by decide +kernel) (pa_cons (pv 0) (pa_cons (pe_bltn (v := .ty "bool") rfl T.b_bool (by decide +kernel) rfl) pa_nil)))))))), ?_⟩)
  · obtain ⟨x, d, rfl, _⟩ := h
    rfl
  · obtain ⟨x, d, rfl, hd, q⟩ := h
    rw [st_is_whole]
    walk_at "st"
    rcases hd.split with ⟨rfl, rfl⟩ | ⟨b, rfl, rfl⟩ | ⟨i, rfl, rfl⟩ | ⟨z, rfl, rfl, hz⟩ | ⟨a, xs, ds, rfl, rfl, h1, h2, hn⟩ | ⟨a, xs, ds, rfl, rfl, h1, h2, hn⟩ | ⟨a, rfl, rfl, h1⟩
    all_goals
      walk_at "rd"
      exact q
def sp_is_name : Sp := fun vs H Q _ => ∃ x d, vs = [x] ∧ Dq H x d ∧ ∀ H', Same H H' → Q (.bl (isName d)) H'
theorem all_mapL (l : List Nat) (p : Nat → Bool) : (l.map p).all id = l.all p := by
  rw [List.all_map]
  rfl
theorem ok_is_name (T : Txt K mg) : Z.C0 P w K mg base 1 "is_name" (sp_is_name) := by
  refine T.d_is_name.c0 sc_is_name (fun vs H Q E h => ?_) (Z.bd0 fun _ _ _ _ _ _ us hl => match us, hl with | [_], _ => rfl) (fun f cdv A outer s H vs Q E hr h => ⟨_, (pss_cons (ps_if (PW.pt (pw_or (pt_not (pt_val (pe_callB (k_isi K) rfl T.b_isinstance (by decide +kernel) (pa_cons (pv 0) (pa_cons (pe_bltn (v := .ty "str") rfl T.b_str (by decide +kernel) rfl) pa_nil))))) (pw_or1 (pt_not (pt_chain op_leI op_leI pe_int (pe_callB (k_len K) rfl T.b_len (by decide +kernel) (pa_cons (pv 0) pa_nil)) (C8.pe_gc rfl T.c_LONGEST_numbers))))))
  (pss_one (ps_ret pe_bl)) pss_nil)
  (pss_one (ps_ret (pe_callB (k_all K rfl) rfl T.b_all (by decide +kernel) (pa_cons (pe_lc (own := [("sign", 1)]) rfl sc_is_name.nd (pi_str (pv 0)) (blkOk_by (N := ["thing", "sign"]) (sc := defScope s_is_name) (by decide +kernel)) (fun _ _ _ _ _ => (pg_name (i := 1) sc_is_name.nd rfl (Or.inl rfl))) (fun _ _ _ _ _ => pts_nil) (fun _ _ _ _ _ => (pe_cmpR (k_inP K) (pv 1) (C8.pe_gc rfl T.c_LETTERS_numbers) (by rfl)))) pa_nil))))), ?_⟩)
  · obtain ⟨x, d, rfl, _⟩ := h
    rfl
  · obtain ⟨x, d, rfl, hd, q⟩ := h
    rw [st_is_name]
    walk_at "st"
    rcases hd.split with ⟨rfl, rfl⟩ | ⟨b, rfl, rfl⟩ | ⟨i, rfl, rfl⟩ | ⟨z, rfl, rfl, hz⟩ | ⟨a, xs, ds, rfl, rfl, h1, h2, hn⟩ | ⟨a, xs, ds, rfl, rfl, h1, h2, hn⟩ | ⟨a, rfl, rfl, h1⟩
    case inr.inr.inr.inl =>
      have el : z.length = (tl z).length := len_tl z
      have no : ∀ H', Same H H' → nameOk z = false → Q (.bl false) H' := fun H' e h => by
        have := q H' e
        rwa [show isName (.str z) = nameOk z from rfl, h] at this
      have nok : ¬ (1 ≤ (tl z).length ∧ (tl z).length ≤ 8) → nameOk z = false := fun h => by
        unfold nameOk
        rw [decide_eq_false h]
        rfl
      walk_at "rd"
      refine r_ite (fun h1 => ?_) (fun h1 => ?_)
      · walk_at "rd"
        refine r_nite (fun h2 => ?_) (fun h2 => ?_)
        · walk_at "rd"
          exact no H (Same.refl _) (nok (by omega))
        · have hh : 1 ≤ (tl z).length ∧ (tl z).length ≤ 8 := ⟨by omega, by omega⟩
          walk_at "rd"
          refine lcW walk_str (fun i acc _ => acc = (((tl z).take i).map low).map V.bl) rfl (fun _ _ => trivial) (fun _ _ => rfl) ?_ ?_
          · rintro i x acc Dl H1 _ hi hD e1 e2 hl2 rfl ⟨rfl, c, hc, rfl⟩
            walk_at "rd"
            rw [low_mem]
            have hc2 : (tl z)[i]? = some c := by simpa [tl] using hc
            refine lc_put (by have := (List.getElem?_eq_some_iff.mp hc2).1; omega) hD e1 e2 hl2 fun H5 _ _ => ?_
            rw [List.take_add_one, hc2]
            simp
          · rintro acc Dl H1 hD e1 e2 rfl
            have en : z.cps.size = (tl z).length := by simp [tl]
            rw [en, List.take_length] at e2
            walk_at "rd"
            refine r_all (sqL e2) ?_
            rw [all_mapL]
            have e3 : isName (.str z) = (tl z).all low := by
              show nameOk z = _
              unfold nameOk
              rw [decide_eq_true hh]
              rfl
            have := q H1 e1
            rw [e3] at this
            exact this
      · walk_at "rd"
        exact no H (Same.refl _) (nok (by omega))
    all_goals
      walk_at "rd"
      exact q H (Same.refl _)
/-- a want that can be: its name -/
def cntOk : PyData → Bool
  | .int c => decide (0 ≤ c) && decide (c ≤ 1000000000)
  | _ => false
def strOf : PyData → Str
  | .str z => z
  | _ => Str.empty
def wantName : PyData → Option Str
  | .tuple [d, c] => if (isName d && cntOk c) = true then some (strOf d) else none
  | _ => none
theorem wantName2 (d c : PyData) : (wantName (.tuple [d, c])).isSome = (isName d && cntOk c) := by
  show (if _ then _ else _ : Option Str).isSome = _
  cases (isName d && cntOk c) <;> rfl
def sp_is_want : Sp := fun vs H Q _ => ∃ x d, vs = [x] ∧ Dq H x d ∧ ∀ H', Same H H' → Q (.bl (wantName d).isSome) H'
theorem ok_is_want (T : Txt K mg) : Z.C0 P w K mg base 2 "is_want" (sp_is_want) := by
  refine T.d_is_want.c0 sc_is_want (fun vs H Q E h => ?_) (Z.bd0 fun _ _ _ _ _ _ us hl => match us, hl with | [_], _ => rfl) (fun f cdv A outer s H vs Q E hr h => ⟨_, (pss_cons (ps_if (PW.pt (pw_or (pt_not (pt_val (pe_callB (k_isi K) rfl T.b_isinstance (by decide +kernel) (pa_cons (pv 0) (pa_cons (pe_bltn (v := .ty "tuple") rfl T.b_tuple (by decide +kernel) rfl) pa_nil))))) (pw_or (pt_cmpR (k_neP K hr.units) (pe_callB (k_len K) rfl T.b_len (by decide +kernel) (pa_cons (pv 0) pa_nil)) pe_int (nomark _)) (pw_or1 (pt_not (pt_val (pe_c0 (ok_is_name T) hr (by decide) rfl (pa_cons (pe_ix (k_ix K) (pv 0) pe_int (fun _ _ => rfl)) pa_nil))))))))
  (pss_one (ps_ret pe_bl)) pss_nil)
  (pss_one (ps_ret (pe_and (pe_c0 (ok_is_whole T) hr (by decide) rfl (pa_cons (pe_ix (k_ix K) (pv 0) pe_int (fun _ _ => rfl)) pa_nil)) (pe_one (pe_chain op_leI op_leI pe_int (pe_ix (k_ix K) (pv 0) pe_int (fun _ _ => rfl)) (C8.pe_gc rfl T.c_GREATEST_COUNT_wants))))))), ?_⟩)
  · obtain ⟨x, d, rfl, _⟩ := h
    rfl
  · obtain ⟨x, d, rfl, hd, q⟩ := h
    rw [st_is_want]
    walk_at "st"
    rcases hd.split with ⟨rfl, rfl⟩ | ⟨b, rfl, rfl⟩ | ⟨i, rfl, rfl⟩ | ⟨z, rfl, rfl, hz⟩ | ⟨a, xs, ds, rfl, rfl, h1, h2, hn⟩ | ⟨a, xs, ds, rfl, rfl, h1, h2, hn⟩ | ⟨a, rfl, rfl, h1⟩
    case inr.inr.inr.inr.inr.inl =>
      have no : ∀ H', Same H H' → wantName (.tuple ds) = none → Q (.bl false) H' := fun H' e h => by
        have := q H' e
        rwa [h] at this
      have hl := h2.length
      walk_at "rd"
      refine r_nite (fun h3 => ?_) (fun h3 => ?_)
      · walk_at "rd"
        refine no H (Same.refl _) ?_
        match ds, hl with
        | [], _ => rfl
        | [_], _ => rfl
        | [_, _], hl => exact absurd (by rw [hl]; rfl) h3
        | _ :: _ :: _ :: _, _ => rfl
      · match ds, h2 with
        | [], h2 => exact absurd h3 (by rw [hl]; decide)
        | [_], h2 => exact absurd h3 (by rw [hl]; simp)
        | _ :: _ :: _ :: _, h2 => exact absurd h3 (by rw [hl]; simp; omega)
        | [d1, d2], h2 =>
          obtain ⟨v1, vs1, rfl, g1, h2⟩ := h2.cons_inv
          obtain ⟨v2, vs2, rfl, g2, h2⟩ := h2.cons_inv
          obtain rfl := h2.nil_inv
          walk_at "rd"
          refine ⟨v1, d1, rfl, g1, fun H1 e1 => ?_⟩
          replace q := q H1 e1
          rw [wantName2] at q
          walk_at "rd"
          cases en : isName d1 with
          | false =>
            rw [en] at q
            walk_at "rd"
            exact q
          | true =>
            rw [en] at q
            walk_at "rd"
            refine ⟨v2, d2, rfl, by walk_at "lk", ?_⟩
            rcases g2.split with ⟨rfl, rfl⟩ | ⟨b, rfl, rfl⟩ | ⟨i, rfl, rfl⟩ | ⟨z, rfl, rfl, hz⟩ | ⟨a, xs, ds, rfl, rfl, k1, k2, kn⟩ | ⟨a, xs, ds, rfl, rfl, k1, k2, kn⟩ | ⟨a, rfl, rfl, k1⟩
            case inr.inr.inl =>
              dsimp only [isWhole]
              have q2 : Q (.bl (decide (0 ≤ i) && decide (i ≤ 1000000000))) H1 := q
              walk_at "rd"
              refine r_ite (fun h4 => ?_) (fun h4 => ?_)
              · rw [decide_eq_true h4] at q2
                walk_at "rd"
                exact q2
              · rw [decide_eq_false h4] at q2
                walk_at "rd"
                exact q2
            all_goals
              dsimp only [isWhole]
              walk_at "rd"
              exact q
    all_goals
      walk_at "rd"
      exact q H (Same.refl _)
theorem want_str {H : Hp} {x : V} {d : PyData} {n : Str} (h : Dq H x d) (e : wantName d = some n) : ∃ (T : Addr) (v2 : V), x = .ref T ∧ H T = some (.tup [.str n, v2]) := by
  rcases h.split with ⟨rfl, rfl⟩ | ⟨b, rfl, rfl⟩ | ⟨i, rfl, rfl⟩ | ⟨z, rfl, rfl, hz⟩ | ⟨a, xs, ds, rfl, rfl, h1, h2, hn⟩ | ⟨a, xs, ds, rfl, rfl, h1, h2, hn⟩ | ⟨a, rfl, rfl, h1⟩
  case inr.inr.inr.inr.inr.inl =>
    match ds, h2 with
    | [], _ => cases e
    | [_], _ => cases e
    | _ :: _ :: _ :: _, _ => cases e
    | [d1, d2], h2 =>
      obtain ⟨v1, vs1, rfl, g1, h2⟩ := h2.cons_inv
      obtain ⟨v2, vs2, rfl, g2, h2⟩ := h2.cons_inv
      obtain rfl := h2.nil_inv
      have e2 : (if (isName d1 && cntOk d2) = true then some (strOf d1) else none) = some n := e
      split at e2
      · rename_i hc
        obtain ⟨hnm, _⟩ := Bool.and_eq_true_iff.mp hc
        rcases g1.split with ⟨rfl, rfl⟩ | ⟨b, rfl, rfl⟩ | ⟨i, rfl, rfl⟩ | ⟨z, rfl, rfl, hz⟩ | ⟨a, xs, ds, rfl, rfl, h1, h2, hn⟩ | ⟨a, xs, ds, rfl, rfl, h1, h2, hn⟩ | ⟨a, rfl, rfl, h1⟩
        case inr.inr.inr.inl =>
          cases e2
          exact ⟨_, _, rfl, h1⟩
        all_goals cases hnm
      · cases e2
  all_goals cases e
/-- the first thing of a list that can't stand; names ahead: seen -/
def wantsScan : List Str → Nat → List PyData → Option Nat
  | _, _, [] => none
  | seen, i, d :: ds => match wantName d with
    | none => some i
    | some n => if n ∈ seen then some i else wantsScan (seen ++ [n]) (i + 1) ds
/-- what is wrong with wants: none, or the number told (None: no list, too few, too many) -/
def wantsErr : PyData → Option V
  | .list ds => if 1 ≤ ds.length ∧ ds.length ≤ 20 then (wantsScan [] 0 ds).map fun i => .int (i : Nat) else some .non
  | _ => some .non
def rais (K : PySem.W.Frag) (c f : Str) (y : V) (H : Hp) (E : XK) : Prop := ∀ d H', H d = none → Same H H' → H' d = some (.xd [(f, y)]) → E (.ref (He.ga K c)) (some d) H'
def wantsQ (K : PySem.W.Frag) (r : Option V) (H : Hp) (Q : VK) (E : XK) : Prop := match r with
  | none => ∀ H', Same H H' → Q .non H'
  | some y => rais K "NoWants" "number" y H E
def sp_look_wants (K : PySem.W.Frag) : Sp := fun vs H Q E => ∃ x d, vs = [x] ∧ Dq H x d ∧ wantsQ K (wantsErr d) H Q E
theorem oki_NoWants (T : Txt K mg) : Z.Oi P w K mg base "NoWants" "number" := by
  refine T.i_NoWants.oi sci_NoWants (fun _ _ _ _ _ _ us hl => match us, hl with | [_, _], _ => rfl) (fun cdv A outer s H vs Q E hr h => ⟨_, (pss_cons (ps_expr (pe_dearI rfl T.k_DearError T.ex.d (pa_cons (pv 0) (pa_cons (pe_joined (PJ.cons pe_str (PJ.cons (pe_fmtN (pv 1)) PJ.nil))) pa_nil))))
  (pss_one (ps_ost (pv 0) (pv 1)))), ?_⟩)
  obtain ⟨a, y, rfl, ha, hf, q⟩ := h
  rw [sti_NoWants]
  walk_at "st"
  walk_at "rd"
  refine r_fmtNV hf (fun z hz => ?_)
  refine r_jsV (by decide) hz (fun z => ?_)
  walk_at "rd"
  refine ⟨a, _, _, rfl, by simp, (T.ex.i ("NoWants", "number") (by simp)).oe, ha, ?_⟩
  walk_at "rd"
  exact ⟨a, _, rfl, (T.ex.i ("NoWants", "number") (by simp)).oe, (T.ex.i ("NoWants", "number") (by simp)).no, Or.inl ⟨ha, fun d h1 h2 => q d h1 h2⟩⟩
theorem ok_look_at_wants (T : Txt K mg) : Z.CE P w K mg base 3 "look_at_wants" (sp_look_wants K) := by
  refine T.d_look_at_wants.ce sc_look_at_wants (fun vs H Q E h => ?_) (Z.bd0 fun _ _ _ _ _ _ us hl => match us, hl with | [_], _ => rfl) (fun f cdv A outer s H vs Q E hr h => ⟨_, (pss_cons (ps_if (PW.pt (pw_or (pt_not (pt_val (pe_callB (k_isi K) rfl T.b_isinstance (by decide +kernel) (pa_cons (pv 0) (pa_cons (pe_bltn (v := .ty "list") rfl T.b_list (by decide +kernel) rfl) pa_nil))))) (pw_or1 (pt_not (pt_chain op_leI op_leI pe_int (pe_callB (k_len K) rfl T.b_len (by decide +kernel) (pa_cons (pv 0) pa_nil)) (C8.pe_gc rfl T.c_MOST_THINGS_wants))))))
  (pss_one (ps_raiO K rfl (takes_of rfl rfl rfl rfl) (T.ex.i ("NoWants", "number") (by simp)) (oki_NoWants T) hr (by decide) rfl (pa_cons pe_non pa_nil))) pss_nil)
  (pss_cons (ps_set (i := 1) sc_look_at_wants.nd rfl (Or.inl rfl) pe_dnewK)
  (pss_one (ps_for (passes_of rfl) rfl (k_iE K (by rfl) T.b_enumerate (pa_cons (pv 0) pa_nil)) (k_tup (n := 2) K rfl (pgs_cons (pg_name (i := 2) sc_look_at_wants.nd rfl (Or.inl rfl)) (pgs_cons (pg_name (i := 3) sc_look_at_wants.nd rfl (Or.inl rfl)) pgs_nil)))
  (pss_cons (ps_if (PW.pt (pw_or (pt_not (pt_val (pe_c0 (ok_is_want T) hr (by decide) rfl (pa_cons (pv 3) pa_nil)))) (pw_or1 (pt_cmp (pc_din (Z.hu1 hr.units) (pe_ix (k_ix K) (pv 3) pe_int (fun _ _ => rfl)) (pv 1))))))
  (pss_one (ps_raiO K rfl (takes_of rfl rfl rfl rfl) (T.ex.i ("NoWants", "number") (by simp)) (oki_NoWants T) hr (by decide) rfl (pa_cons (pv 2) pa_nil))) pss_nil)
  (pss_one (ps_dput (Z.hu1 hr.units) (pv 1) (pe_ix (k_ix K) (pv 3) pe_int (fun _ _ => rfl)) pe_bl rfl))))))), ?_⟩)
  · obtain ⟨x, d, rfl, _⟩ := h
    rfl
  · obtain ⟨x, d, rfl, hd, q⟩ := h
    rw [st_look_at_wants]
    walk_at "st"
    have bad : ∀ d, wantsErr d = some .non → wantsQ K (wantsErr d) H Q E → rais K "NoWants" "number" .non H E := fun d e h => by
      rw [e] at h
      exact h
    rcases hd.split with ⟨rfl, rfl⟩ | ⟨b, rfl, rfl⟩ | ⟨i, rfl, rfl⟩ | ⟨z, rfl, rfl, hz⟩ | ⟨a, xs, ds, rfl, rfl, h1, h2, hn⟩ | ⟨a, xs, ds, rfl, rfl, h1, h2, hn⟩ | ⟨a, rfl, rfl, h1⟩
    case inr.inr.inr.inr.inl =>
      have hl := h2.length
      have out : ¬ (1 ≤ ds.length ∧ ds.length ≤ 20) → rais K "NoWants" "number" .non H E := fun h => bad (.list ds) (if_neg h) q
      walk_at "rd"
      refine r_ite (fun h3 => ?_) (fun h3 => ?_)
      · walk_at "rd"
        refine r_nite (fun h4 => ?_) (fun h4 => ?_)
        · walk_at "rd"
          refine r_raiE (.inl rfl) (fun d hd => ?_)
          exact out (by omega) d _ hd (Same.new hd) upd_same
        · have hh : 1 ≤ ds.length ∧ ds.length ≤ 20 := ⟨by omega, by omega⟩
          have q2 : wantsQ K ((wantsScan [] 0 ds).map fun i => .int (i : Nat)) H Q E := by
            have e : wantsErr (.list ds) = (wantsScan [] 0 ds).map fun i => .int (i : Nat) := if_pos hh
            rwa [e] at q
          walk_at "rd"
          intro nd H1 hnd e1 f1
          walk_at "rd"
          refine forW (walk_enum (xs := xs)) (fun i σ H2 => ∃ (seen : List Str) (kvs : List (Key × V)) (z2 z3 : Option V), σ = [some (.ref a), some (.ref nd), z2, z3] ∧ Same H H2 ∧ H2 nd = some (.dK kvs) ∧ kvs.length ≤ i ∧ (∀ z, (valV kvs (.inr z)).isSome = decide (z ∈ seen)) ∧ wantsScan [] 0 ds = wantsScan seen i (ds.drop i)) ⟨[], [], none, none, rfl, e1, f1, Nat.le_refl _, fun z => rfl, rfl⟩ (fun i σ H2 _ ⟨_, _, _, _, _, e, _⟩ => by walk_at "lk") ?_ ?_
          · rintro i x σ H2 H3 hi ⟨seen, kvs, z2, z3, rfl, e2, f2, g2, hv, hs⟩ y
            obtain ⟨T1, x1, x2, rfl, hT, rfl, hx1, hx2⟩ := y
            have e3 : Same H2 (upd H2 T1 (.tup [x1, x2])) := Same.new hT
            have f3 : (upd H2 T1 (.tup [x1, x2])) T1 = some (.tup [x1, x2]) := upd_same
            revert e3 f3
            generalize upd H2 T1 (.tup [x1, x2]) = H3
            intro e3 f3
            obtain rfl : V.int (i : Nat) = x1 := Option.some.inj hx1
            have hi2 : i < ds.length := by omega
            obtain rfl : xs[i] = x2 := by
              have e := List.getElem?_eq_getElem hi
              exact Option.some.inj (e.symm.trans hx2)
            have gi : Dq H xs[i] ds[i] := h2.get i hi hi2
            rw [List.drop_eq_getElem_cons hi2] at hs
            walk_at "rd"
            refine ⟨_, ds[i], rfl, by walk_at "lk", fun H4 e4 => ?_⟩
            cases en : wantName ds[i] with
            | none =>
              have hs2 : wantsScan [] 0 ds = some i := by
                rw [hs]
                show (match wantName ds[i] with | none => some i | some n => _) = _
                rw [en]
              rw [hs2] at q2
              rw [Option.isSome_none]
              walk_at "rd"
              refine r_raiE (fmt_nat (by omega)) (fun d hd => ?_)
              have e5 : Same H H4 := by walk_at "sm"
              exact q2 d _ (Z.fr hd e5) (e5.trans (Same.new hd)) upd_same
            | some n =>
              obtain ⟨T2, v2, ex, hT2⟩ := want_str gi en
              rw [ex, Option.isSome_some]
              walk_at "rd"
              rw [hv]
              refine r_ite (fun h5 => ?_) (fun h5 => ?_)
              · have hs2 : wantsScan [] 0 ds = some i := by
                  rw [hs]
                  show (match wantName ds[i] with | none => some i | some n => if n ∈ seen then some i else _) = _
                  rw [en]
                  exact if_pos h5
                rw [hs2] at q2
                walk_at "rd"
                refine r_raiE (fmt_nat (by omega)) (fun d hd => ?_)
                have e5 : Same H H4 := by walk_at "sm"
                exact q2 d _ (Z.fr hd e5) (e5.trans (Same.new hd)) upd_same
              · have hs2 : wantsScan [] 0 ds = wantsScan (seen ++ [n]) (i + 1) (ds.drop (i + 1)) := by
                  rw [hs]
                  show (match wantName ds[i] with | none => some i | some n => if n ∈ seen then some i else _) = _
                  rw [en]
                  exact if_neg h5
                walk_at "rd"
                intro H5 b5 f5
                refine ⟨seen ++ [n], putK kvs (.inr n) (.bl true), _, _, rfl, by walk_at "sm", f5, ?_, fun z => ?_, hs2⟩
                · exact Nat.le_trans (Z.putLen _ _ _) (by omega)
                · rw [valV_put]
                  by_cases hz : z = n
                  · rw [if_pos (by rw [hz])]
                    simp [hz]
                  · rw [if_neg (by intro h; exact hz (Sum.inr.inj h)), hv]
                    simp [hz]
          · rintro σ H2 ⟨seen, kvs, z2, z3, rfl, e2, f2, g2, hv, hs⟩
            walk_at "rd"
            rw [hs, hl, List.drop_length] at q2
            exact q2 H2 e2
      · walk_at "rd"
        refine r_raiE (.inl rfl) (fun d hd => ?_)
        exact out (by omega) d _ hd (Same.new hd) upd_same
    all_goals
      walk_at "rd"
      refine r_raiE (.inl rfl) (fun d hd => ?_)
      exact bad _ rfl q d _ hd (Same.new hd) upd_same
end
end My

namespace My
open PySem PySem.Spec PyProof.Rows L2 Z M SX TL
section
variable {P : Program} {w : World} {K : PySem.W.Frag} {mg : Str → Option Value} {base : Heap}
/-! ### wants that can be -/
def wantD (w : Str × Nat) : PyData := .tuple [.str w.1, .int (w.2 : Int)]
def wsD (ws : List (Str × Nat)) : List PyData := ws.map wantD
structure WsOk (ws : List (Str × Nat)) : Prop where
  l1 : 1 ≤ ws.length
  l2 : ws.length ≤ 20
  nd : (ws.map (·.1)).Nodup
  nm : ∀ w ∈ ws, nameOk w.1 = true
  ct : ∀ w ∈ ws, w.2 ≤ 1000000000
theorem wantName_ok {w : Str × Nat} (h1 : nameOk w.1 = true) (h2 : w.2 ≤ 1000000000) : wantName (wantD w) = some w.1 := by
  have h3 : cntOk (.int (w.2 : Int)) = true := by
    show (decide (0 ≤ (w.2 : Int)) && decide ((w.2 : Int) ≤ 1000000000)) = true
    rw [decide_eq_true (by omega), decide_eq_true (by omega)]
    rfl
  show (if (isName (.str w.1) && cntOk (.int (w.2 : Int))) = true then some (strOf (.str w.1)) else none) = _
  rw [if_pos (by rw [h3]; show (nameOk w.1 && true) = true; rw [h1]; rfl)]
  rfl
theorem scan_cons_none {seen : List Str} {i : Nat} {d : PyData} {ds : List PyData} (h : wantName d = none) : wantsScan seen i (d :: ds) = some i := by
  show (match wantName d with | none => some i | some n => if n ∈ seen then some i else _) = _
  rw [h]
theorem scan_cons_old {seen : List Str} {i : Nat} {d : PyData} {ds : List PyData} {n : Str} (h : wantName d = some n) (h2 : n ∈ seen) : wantsScan seen i (d :: ds) = some i := by
  show (match wantName d with | none => some i | some n => if n ∈ seen then some i else _) = _
  rw [h]
  exact if_pos h2
theorem scan_cons_new {seen : List Str} {i : Nat} {d : PyData} {ds : List PyData} {n : Str} (h : wantName d = some n) (h2 : n ∉ seen) : wantsScan seen i (d :: ds) = wantsScan (seen ++ [n]) (i + 1) ds := by
  show (match wantName d with | none => some i | some n => if n ∈ seen then some i else _) = _
  rw [h]
  exact if_neg h2
theorem scan_app : ∀ (ws : List (Str × Nat)) (seen : List Str) (i : Nat) (rest : List PyData), (ws.map (·.1)).Nodup → (∀ w ∈ ws, nameOk w.1 = true) → (∀ w ∈ ws, w.2 ≤ 1000000000) → (∀ w ∈ ws, w.1 ∉ seen) →
    wantsScan seen i (wsD ws ++ rest) = wantsScan (seen ++ ws.map (·.1)) (i + ws.length) rest
  | [], seen, i, rest, _, _, _, _ => by simp [wsD]
  | w :: ws, seen, i, rest, h1, h2, h3, h4 => by
    have e : wsD (w :: ws) ++ rest = wantD w :: (wsD ws ++ rest) := rfl
    rw [e, scan_cons_new (wantName_ok (h2 w List.mem_cons_self) (h3 w List.mem_cons_self)) (h4 w List.mem_cons_self)]
    rw [List.map_cons, List.nodup_cons] at h1
    rw [scan_app ws (seen ++ [w.1]) (i + 1) rest h1.2 (fun w hw => h2 w (List.mem_cons_of_mem _ hw)) (fun w hw => h3 w (List.mem_cons_of_mem _ hw)) (fun v hv => ?_)]
    · rw [List.map_cons, List.append_assoc, List.length_cons]
      congr 1
      omega
    · intro hm
      rcases List.mem_append.mp hm with hm | hm
      · exact h4 v (List.mem_cons_of_mem _ hv) hm
      · rw [List.mem_singleton] at hm
        exact h1.1 (List.mem_map.mpr ⟨v, hv, hm⟩)
theorem wantsErr_ok {ws : List (Str × Nat)} (h : WsOk ws) : wantsErr (.list (wsD ws)) = none := by
  have hl : (wsD ws).length = ws.length := by
    unfold wsD
    rw [List.length_map]
  have e : wantsErr (.list (wsD ws)) = (wantsScan [] 0 (wsD ws)).map fun i => .int (i : Nat) := if_pos (by rw [hl]; exact ⟨h.l1, h.l2⟩)
  rw [e]
  have := scan_app ws [] 0 [] h.nd h.nm h.ct (fun _ _ => List.not_mem_nil)
  rw [List.append_nil] at this
  rw [this]
  rfl
theorem strOk_low {z : Str} (h : (tl z).all low = true) : PyData.strOk z = true := by
  unfold PyData.strOk
  rw [← Array.all_toList, List.all_eq_true]
  intro c hc
  have := List.all_eq_true.mp h c hc
  unfold low at this
  have := of_decide_eq_true this
  exact decide_eq_true (by omega)
theorem name_low {z : Str} (h : nameOk z = true) : (tl z).all low = true := (Bool.and_eq_true_iff.mp h).2
theorem wsD_lay : ∀ ws : List (Str × Nat), (∀ w ∈ ws, nameOk w.1 = true) → PyData.canLayAll0 (wsD ws) = true ∧ PyData.depthAll (wsD ws) ≤ 3
  | [], _ => ⟨rfl, by show PyData.depthAll [] ≤ 3; decide⟩
  | w :: ws, h => by
    obtain ⟨h1, h2⟩ := wsD_lay ws fun w hw => h w (List.mem_cons_of_mem _ hw)
    constructor
    · show (PyData.canLay0 (wantD w) && PyData.canLayAll0 (wsD ws)) = true
      rw [h1, Bool.and_true]
      simp [wantD, PyData.canLay0, PyData.canLayAll0, strOk_low (name_low (h w List.mem_cons_self))]
    · show max (PyData.depth (wantD w)) (PyData.depthAll (wsD ws)) ≤ 3
      have : PyData.depth (wantD w) ≤ 3 := by
        show PyData.depth (.tuple [.str w.1, .int (w.2 : Int)]) ≤ 3
        simp [PyData.depth, PyData.depthAll]
      omega
theorem wsD_shaped {ws : List (Str × Nat)} (h : WsOk ws) : SeqAt.shaped (.list (wsD ws)) = true := by
  obtain ⟨h1, h2⟩ := wsD_lay ws h.nm
  unfold SeqAt.shaped
  rw [PyData.canLay0, h1, Bool.true_and, decide_eq_true_iff, PyData.depth]
  omega
theorem wsD_eqv {ws : List (Str × Nat)} (h : WsOk ws) : PyData.eqv (.list (wsD ws)) (.list (wsD ws)) = true := by
  rw [PyData.eqv]
  exact SeqAt.eqvAll_refl _ (wsD_lay ws h.nm).1
def sp_divisor : Sp := fun vs H Q _ => ∃ a b : Nat, vs = [.int a, .int b] ∧ Q (.int (Nat.gcd a b : Nat)) H
theorem ok_divisor (T : Txt K mg) : Z.C0 P w K mg base 1 "divisor" (sp_divisor) := by
  refine T.d_divisor.c0 sc_divisor (fun vs H Q E h => ?_) (Z.bd0 fun _ _ _ _ _ _ us hl => match us, hl with | [_, _], _ => rfl) (fun f cdv A outer s H vs Q E hr h => ⟨_, (pss_cons (ps_while PassesOwn.never (pt_cmpR op_gtI (pv 1) pe_int (nomark _))
  (pss_one (ps_par (i := 0) (j := 1) rfl sc_divisor.nd rfl rfl (by decide) rfl rfl (pa_cons (pv 1) (pa_cons (pe_op op_modP (pv 0) (pv 1)) pa_nil)) rfl)))
  (pss_one (ps_ret (pv 0)))), ?_⟩)
  · obtain ⟨a, b, rfl, _⟩ := h
    rfl
  · obtain ⟨a, b, rfl, q⟩ := h
    rw [st_divisor]
    walk_at "st"
    walk_at "rd"
    refine r_while (fun m σ H' => H' = H ∧ ∃ x y : Nat, σ = [some (.int x), some (.int y)] ∧ m = y ∧ Nat.gcd x y = Nat.gcd a b) b (by walk_at "mn") ⟨rfl, a, b, rfl, rfl, rfl⟩ ?_
    rintro m σ _ ⟨rfl, x, y, rfl, rfl, e⟩
    walk_at "rd"
    refine r_ite (fun h1 => ?_) (fun h1 => ?_)
    · walk_at "rd"
      exact ⟨x % m, Nat.mod_lt _ (by omega), rfl, m, x % m, rfl, rfl, (gcd_step (by omega)).trans e⟩
    · walk_at "rd"
      have : m = 0 := by omega
      subst this
      rw [Nat.gcd_zero_right] at e
      rw [e]
      exact q
/-! ### lowest, fraction -/
def lowV (t : Int) (b : Nat) : List V := [.int (t / (Nat.gcd b t.natAbs : Nat)), .int ((b : Int) / (Nat.gcd b t.natAbs : Nat))]
def sp_lowest : Sp := fun vs H Q _ => ∃ (t : Int) (b : Nat), vs = [.int t, .int b] ∧ 0 < b ∧ b < 10 ^ 60 ∧ ∀ p H', H p = none → Same H H' → H' p = some (.tup (lowV t b)) → Q (.ref p) H'
theorem div_ok {i : Int} {j n : Nat} (h0 : 0 < j) (h : j ≤ n) (hn : n < 10 ^ 60) : CDivP i j := by
  refine .inr (wide_div (b := 200) (by omega) ?_ (by decide) (by decide))
  have : (10 : Nat) ^ 60 < 2 ^ 200 := by decide
  show (j : Int).natAbs < 2 ^ 200
  rw [Int.natAbs_natCast]
  omega
theorem ok_lowest (T : Txt K mg) : Z.C0 P w K mg base 2 "lowest" (sp_lowest) := by
  refine T.d_lowest.c0 sc_lowest (fun vs H Q E h => ?_) (Z.bd0 fun _ _ _ _ _ _ us hl => match us, hl with | [_, _], _ => rfl) (fun f cdv A outer s H vs Q E hr h => ⟨_, (pss_cons (ps_set (i := 2) sc_lowest.nd rfl (Or.inl rfl) (pe_c0 (ok_divisor T) hr (by decide) rfl (pa_cons (pv 1) (pa_cons (pe_callB call_absP rfl T.b_abs (by decide +kernel) (pa_cons (pv 0) pa_nil)) pa_nil))))
  (pss_one (ps_ret (pe_tup (pa_cons (pe_op op_div (pv 0) (pv 2)) (pa_cons (pe_op op_div (pv 1) (pv 2)) pa_nil)))))), ?_⟩)
  · obtain ⟨t, b, rfl, _⟩ := h
    rfl
  · obtain ⟨t, b, rfl, hb, hb2, q⟩ := h
    rw [st_lowest]
    walk_at "st"
    walk_at "rd"
    refine ⟨b, t.natAbs, rfl, ?_⟩
    have g0 : 0 < Nat.gcd b t.natAbs := Nat.gcd_pos_of_pos_left _ hb
    have g1 : Nat.gcd b t.natAbs ≤ b := Nat.gcd_le_left _ hb
    walk_at "rd"
    refine r_div ?_ (div_ok g0 g1 hb2)
    walk_at "rd"
    refine r_div ?_ (div_ok g0 g1 hb2)
    walk_at "rd"
    exact q
def sp_fraction : Sp := sp_lowest
theorem ok_fraction (T : Txt K mg) : Z.C0 P w K mg base 3 "fraction" (sp_fraction) := by
  refine T.d_fraction.c0 sc_fraction (fun vs H Q E h => ?_) (Z.bd1 (by simp) fun _ _ _ _ _ _ _ us its hu hi => match us, its, hu, hi with | [_, _], [_], _, _ => ⟨_, rfl, rfl⟩) (fun f cdv A outer s H vs Q E hr h => ⟨_, (pss_cons (ps_if (PW.pt (pw_or (pt_not (pt_val (pe_c0 (ok_is_whole T) hr (by decide) rfl (pa_cons (pv 0) pa_nil)))) (pw_or (pt_not (pt_val (pe_c0 (ok_is_whole T) hr (by decide) rfl (pa_cons (pv 1) pa_nil)))) (pw_or1 (pt_cmpR (k_eqP K hr.units) (pv 1) pe_int (nomark _))))))
  (pss_one ps_never) pss_nil)
  (pss_cons (ps_if (pt_cmpR op_ltI (pv 1) pe_int (nomark _))
  (pss_one (ps_ret (pe_c0 (ok_lowest T) hr (by decide) rfl (pa_cons (pe_op op_subI pe_int (pv 0)) (pa_cons (pe_op op_subI pe_int (pv 1)) pa_nil))))) pss_nil)
  (pss_one (ps_ret (pe_c0 (ok_lowest T) hr (by decide) rfl (pa_cons (pv 0) (pa_cons (pv 1) pa_nil))))))), ?_⟩)
  · obtain ⟨t, b, rfl, _⟩ := h
    rfl
  · obtain ⟨t, b, rfl, hb, hb2, q⟩ := h
    rw [st_fraction]
    walk_at "st"
    walk_at "rd"
    refine ⟨_, _, rfl, .int _, ?_⟩
    dsimp only [isWhole]
    walk_at "rd"
    refine ⟨_, _, rfl, .int _, ?_⟩
    dsimp only [isWhole]
    walk_at "rd"
    refine r_dF (by omega) ?_
    walk_at "rd"
    refine r_dF (by omega) ?_
    walk_at "rd"
    exact ⟨t, b, rfl, hb, hb2, q⟩
/-! ### show_fraction -/
/-! ### tongues: any data -/
def isNone : PyData → Bool
  | .none => true
  | _ => false
def frac2 : PyData → PyData → Bool
  | .int t, .int b => decide (1 ≤ b) && decide (Nat.gcd b.toNat t.natAbs = 1)
  | _, _ => false
def isFrac : PyData → Bool
  | .tuple [t, b] => frac2 t b
  | _ => false
def isPrice : PyData → Bool
  | .tuple [t, b] => frac2 t b && (match t with | .int t => decide (0 < t) | _ => false)
  | _ => false
def isLetter : PyData → Bool
  | .str z => decide ((tl z).length = 1) && (tl z).all low
  | _ => false
def isSignD : PyData → Bool
  | .tuple [s, p, l] => isLetter s && (isPrice p && (isNone l || isPrice l))
  | _ => false
def signName : PyData → Str
  | .tuple (s :: _) => strOf s
  | _ => Str.empty
def areSigns : PyData → Bool
  | .list ds => decide (2 ≤ ds.length ∧ ds.length ≤ 6) && (ds.all isSignD && decide ((ds.map signName).Nodup))
  | _ => false
def textOk (n : Nat) (ls : List Str) : PyData → Bool
  | .str z => decide (z.length = n) && (tl z).all fun c => decide (S [c] ∈ ls)
  | _ => false
def unlikeOk (n : Nat) (ls : List Str) : PyData → Bool
  | .list ds => ds.all (textOk n ls) && decide ((ds.map strOf).Nodup)
  | _ => false
def longOk : PyData → Bool
  | .int i => decide (1 ≤ i) && decide (i ≤ 8)
  | _ => false
def lettersOf : PyData → List Str
  | .list ds => ds.map signName
  | _ => []
/-- the part that is wrong, if one is -/
def tongueErr : PyData → Option V
  | .tuple [s, f, p, l] => if areSigns s = false then some (.str "signs") else if unlikeOk 1 (lettersOf s) f = false then some (.str "firsts") else if unlikeOk 2 (lettersOf s) p = false then some (.str "pairs") else if longOk l = false then some (.str "longest") else none
  | _ => some .non
theorem none_dq {H : Hp} {v : V} {d : PyData} (h : Dq H v d) : decide (v = .non) = isNone d := by
  cases h <;> first | rfl | simp [isNone]
def sp_is_fraction : Sp := fun vs H Q _ => ∃ x d, vs = [x] ∧ Dq H x d ∧ Q (.bl (isFrac d)) H
theorem ok_is_fraction (T : Txt K mg) : Z.C0 P w K mg base 2 "is_fraction" (sp_is_fraction) := by
  refine T.d_is_fraction.c0 sc_is_fraction (fun vs H Q E h => ?_) (Z.bd0 fun _ _ _ _ _ _ us hl => match us, hl with | [_], _ => rfl) (fun f cdv A outer s H vs Q E hr h => ⟨_, (pss_cons (ps_if (PW.pt (pw_or (pt_not (pt_val (pe_callB (k_isi K) rfl T.b_isinstance (by decide +kernel) (pa_cons (pv 0) (pa_cons (pe_bltn (v := .ty "tuple") rfl T.b_tuple (by decide +kernel) rfl) pa_nil))))) (pw_or1 (pt_cmpR (k_neP K hr.units) (pe_callB (k_len K) rfl T.b_len (by decide +kernel) (pa_cons (pv 0) pa_nil)) pe_int (nomark _)))))
  (pss_one (ps_ret pe_bl)) pss_nil)
  (pss_cons (ps_asg (pv 0) (k_tup (n := 2) K rfl (pgs_cons (pg_name (i := 1) sc_is_fraction.nd rfl (Or.inl rfl)) (pgs_cons (pg_name (i := 2) sc_is_fraction.nd rfl (Or.inl rfl)) pgs_nil))))
  (pss_cons (ps_if (PW.pt (pw_or (pt_not (pt_val (pe_c0 (ok_is_whole T) hr (by decide) rfl (pa_cons (pv 1) pa_nil)))) (pw_or (pt_not (pt_val (pe_c0 (ok_is_whole T) hr (by decide) rfl (pa_cons (pv 2) pa_nil)))) (pw_or1 (pt_cmpR op_ltI (pv 2) pe_int (nomark _))))))
  (pss_one (ps_ret pe_bl)) pss_nil)
  (pss_one (ps_ret (pe_cmpR (k_eqP K hr.units) (pe_c0 (ok_divisor T) hr (by decide) rfl (pa_cons (pv 2) (pa_cons (pe_callB call_absP rfl T.b_abs (by decide +kernel) (pa_cons (pv 1) pa_nil)) pa_nil))) pe_int (nomark _))))))), ?_⟩)
  · obtain ⟨x, d, rfl, _⟩ := h
    rfl
  · obtain ⟨x, d, rfl, hd, q⟩ := h
    rw [st_is_fraction]
    walk_at "st"
    rcases hd.split with ⟨rfl, rfl⟩ | ⟨b, rfl, rfl⟩ | ⟨i, rfl, rfl⟩ | ⟨z, rfl, rfl, hz⟩ | ⟨a, xs, ds, rfl, rfl, h1, h2, hn⟩ | ⟨a, xs, ds, rfl, rfl, h1, h2, hn⟩ | ⟨a, rfl, rfl, h1⟩
    case inr.inr.inr.inr.inr.inl =>
      have no : isFrac (.tuple ds) = false → Q (.bl false) H := fun h => by rwa [h] at q
      have hl := h2.length
      walk_at "rd"
      refine r_nite (fun h3 => ?_) (fun h3 => ?_)
      · walk_at "rd"
        refine no ?_
        match ds, hl with
        | [], _ => rfl
        | [_], _ => rfl
        | [_, _], hl => exact absurd (by rw [hl]; rfl) h3
        | _ :: _ :: _ :: _, _ => rfl
      · match ds, h2 with
        | [], h2 => exact absurd h3 (by rw [hl]; decide)
        | [_], h2 => exact absurd h3 (by rw [hl]; simp)
        | _ :: _ :: _ :: _, h2 => exact absurd h3 (by rw [hl]; simp; omega)
        | [d1, d2], h2 =>
          obtain ⟨v1, vs1, rfl, g1, h2⟩ := h2.cons_inv
          obtain ⟨v2, vs2, rfl, g2, h2⟩ := h2.cons_inv
          obtain rfl := h2.nil_inv
          walk_at "rd"
          refine ⟨v1, d1, rfl, g1, ?_⟩
          rcases g1.split with ⟨rfl, rfl⟩ | ⟨b, rfl, rfl⟩ | ⟨t, rfl, rfl⟩ | ⟨z, rfl, rfl, hz⟩ | ⟨a, xs, ds, rfl, rfl, k1, k2, kn⟩ | ⟨a, xs, ds, rfl, rfl, k1, k2, kn⟩ | ⟨a, rfl, rfl, k1⟩
          case inr.inr.inl =>
            dsimp only [isWhole]
            walk_at "rd"
            refine ⟨v2, d2, rfl, g2, ?_⟩
            rcases g2.split with ⟨rfl, rfl⟩ | ⟨b, rfl, rfl⟩ | ⟨i, rfl, rfl⟩ | ⟨z, rfl, rfl, hz⟩ | ⟨a, xs, ds, rfl, rfl, k1, k2, kn⟩ | ⟨a, xs, ds, rfl, rfl, k1, k2, kn⟩ | ⟨a, rfl, rfl, k1⟩
            case inr.inr.inl =>
              dsimp only [isWhole]
              walk_at "rd"
              have q2 : Q (.bl (decide (1 ≤ i) && decide (Nat.gcd i.toNat t.natAbs = 1))) H := q
              refine r_ite (fun h4 => ?_) (fun h4 => ?_)
              · rw [decide_eq_false (by omega)] at q2
                walk_at "rd"
                exact q2
              · obtain ⟨n, rfl⟩ : ∃ n : Nat, i = n := ⟨i.toNat, by omega⟩
                rw [decide_eq_true (by omega), show ((n : Int)).toNat = n by omega, Bool.true_and] at q2
                walk_at "rd"
                refine ⟨n, t.natAbs, rfl, ?_⟩
                walk_at "rd"
                rw [show decide (((Nat.gcd n t.natAbs : Nat) : Int) = 1) = decide (Nat.gcd n t.natAbs = 1) by rw [decide_eq_decide]; omega]
                exact q2
            all_goals
              dsimp only [isWhole]
              walk_at "rd"
              exact no rfl
          all_goals
            dsimp only [isWhole]
            walk_at "rd"
            exact no (by cases d2 <;> rfl)
    all_goals
      walk_at "rd"
      exact q
theorem frac_ints {d : PyData} (h : isFrac d = true) : ∃ t b : Int, d = .tuple [.int t, .int b] := by
  unfold isFrac at h
  split at h
  · unfold frac2 at h
    split at h
    · exact ⟨_, _, rfl⟩
    · cases h
  · cases h
theorem price_frac (d : PyData) : isPrice d = true → isFrac d = true := fun h => by
  unfold isPrice at h
  split at h
  · exact (Bool.and_eq_true_iff.mp h).1
  · cases h
theorem dq_ints2 {H : Hp} {v : V} {t b : Int} (h : Dq H v (.tuple [.int t, .int b])) : ∃ a, v = .ref a ∧ H a = some (.tup [.int t, .int b]) := by
  cases h with
  | tup h1 h2 _ =>
    obtain ⟨u1, _, rfl, g1, h2⟩ := DqAll.cons_inv h2
    obtain ⟨u2, _, rfl, g2, h2⟩ := DqAll.cons_inv h2
    obtain rfl := DqAll.nil_inv h2
    rw [g1.intV, g2.intV] at h1
    exact ⟨_, rfl, h1⟩
def sp_is_price : Sp := fun vs H Q _ => ∃ x d, vs = [x] ∧ Dq H x d ∧ Q (.bl (isPrice d)) H
theorem ok_is_price (T : Txt K mg) : Z.C0 P w K mg base 3 "is_price" (sp_is_price) := by
  refine T.d_is_price.c0 sc_is_price (fun vs H Q E h => ?_) (Z.bd0 fun _ _ _ _ _ _ us hl => match us, hl with | [_], _ => rfl) (fun f cdv A outer s H vs Q E hr h => ⟨_, (pss_one (ps_ret (pe_and (pe_c0 (ok_is_fraction T) hr (by decide) rfl (pa_cons (pv 0) pa_nil)) (pe_one (pe_cmpR op_gtI (pe_ix (k_ix K) (pv 0) pe_int (fun _ _ => rfl)) pe_int (nomark _)))))), ?_⟩)
  · obtain ⟨x, d, rfl, _⟩ := h
    rfl
  · obtain ⟨x, d, rfl, hd, q⟩ := h
    rw [st_is_price]
    walk_at "st"
    walk_at "rd"
    refine ⟨x, d, rfl, hd, ?_⟩
    cases e : isFrac d with
    | false =>
      walk_at "rd"
      have : isPrice d = false := by
        cases e2 : isPrice d with
        | false => rfl
        | true => rw [price_frac d e2] at e; cases e
      rwa [this] at q
    | true =>
      obtain ⟨t, b, rfl⟩ := frac_ints e
      obtain ⟨a, rfl, ha⟩ := dq_ints2 hd
      have q2 : Q (.bl (isFrac (.tuple [.int t, .int b]) && decide (0 < t))) H := q
      rw [e, Bool.true_and] at q2
      walk_at "rd"
      exact q2
def sp_is_letter : Sp := fun vs H Q _ => ∃ x d, vs = [x] ∧ Dq H x d ∧ Q (.bl (isLetter d)) H
theorem ok_is_letter (T : Txt K mg) : Z.C0 P w K mg base 1 "is_letter" (sp_is_letter) := by
  refine T.d_is_letter.c0 sc_is_letter (fun vs H Q E h => ?_) (Z.bd0 fun _ _ _ _ _ _ us hl => match us, hl with | [_], _ => rfl) (fun f cdv A outer s H vs Q E hr h => ⟨_, (pss_one (ps_ret (pe_and (pe_callB (k_isi K) rfl T.b_isinstance (by decide +kernel) (pa_cons (pv 0) (pa_cons (pe_bltn (v := .ty "str") rfl T.b_str (by decide +kernel) rfl) pa_nil))) (pe_and (pe_cmpR (k_eqP K hr.units) (pe_callB (k_len K) rfl T.b_len (by decide +kernel) (pa_cons (pv 0) pa_nil)) pe_int (nomark _)) (pe_one (pe_cmpR (k_inP K) (pv 0) (C8.pe_gc rfl T.c_LETTERS_tongues) (by rfl))))))), ?_⟩)
  · obtain ⟨x, d, rfl, _⟩ := h
    rfl
  · obtain ⟨x, d, rfl, hd, q⟩ := h
    rw [st_is_letter]
    walk_at "st"
    rcases hd.split with ⟨rfl, rfl⟩ | ⟨b, rfl, rfl⟩ | ⟨i, rfl, rfl⟩ | ⟨z, rfl, rfl, hz⟩ | ⟨a, xs, ds, rfl, rfl, h1, h2, hn⟩ | ⟨a, xs, ds, rfl, rfl, h1, h2, hn⟩ | ⟨a, rfl, rfl, h1⟩
    case inr.inr.inr.inl =>
      have el := len_tl z
      have q2 : Q (.bl (decide ((tl z).length = 1) && (tl z).all low)) H := q
      walk_at "rd"
      refine r_ite (fun h1 => ?_) (fun h1 => ?_)
      · have h2 : (tl z).length = 1 := by omega
        obtain ⟨c, hc⟩ := List.length_eq_one_iff.mp h2
        have ez : z = ⟨#[c]⟩ := by
          exact ext_tl (hc.trans rfl)
        rw [decide_eq_true h2, hc] at q2
        subst ez
        walk_at "rd"
        rw [low_mem]
        have e : (true && [c].all low) = low c := by simp
        rw [e] at q2
        exact q2
      · rw [decide_eq_false (by omega)] at q2
        walk_at "rd"
        exact q2
    all_goals
      walk_at "rd"
      exact q
end
end My

namespace My
open PySem PySem.Spec PyProof.Rows L2 Z M SX TL
section
variable {P : Program} {w : World} {K : PySem.W.Frag} {mg : Str → Option Value} {base : Heap}
theorem letter_str {H : Hp} {v : V} {d : PyData} (h : Dq H v d) (e : isLetter d = true) : ∃ c, v = .str (S [c]) ∧ d = .str (S [c]) := by
  rcases h.split with ⟨rfl, rfl⟩ | ⟨b, rfl, rfl⟩ | ⟨i, rfl, rfl⟩ | ⟨z, rfl, rfl, hz⟩ | ⟨a, xs, ds, rfl, rfl, h1, h2, hn⟩ | ⟨a, xs, ds, rfl, rfl, h1, h2, hn⟩ | ⟨a, rfl, rfl, h1⟩
  case inr.inr.inr.inl =>
    have e2 : (decide ((tl z).length = 1) && (tl z).all low) = true := e
    obtain ⟨c, hc⟩ := List.length_eq_one_iff.mp (of_decide_eq_true (Bool.and_eq_true_iff.mp e2).1)
    have ez : z = S [c] := ext_tl (hc.trans rfl)
    exact ⟨c, by rw [ez], by rw [ez]⟩
  all_goals cases e
def sp_is_sign : Sp := fun vs H Q _ => ∃ x d, vs = [x] ∧ Dq H x d ∧ Q (.bl (isSignD d)) H
theorem ok_is_sign (T : Txt K mg) : Z.C0 P w K mg base 4 "is_sign" (sp_is_sign) := by
  refine T.d_is_sign.c0 sc_is_sign (fun vs H Q E h => ?_) (Z.bd0 fun _ _ _ _ _ _ us hl => match us, hl with | [_], _ => rfl) (fun f cdv A outer s H vs Q E hr h => ⟨_, (pss_cons (ps_if (PW.pt (pw_or (pt_not (pt_val (pe_callB (k_isi K) rfl T.b_isinstance (by decide +kernel) (pa_cons (pv 0) (pa_cons (pe_bltn (v := .ty "tuple") rfl T.b_tuple (by decide +kernel) rfl) pa_nil))))) (pw_or1 (pt_cmpR (k_neP K hr.units) (pe_callB (k_len K) rfl T.b_len (by decide +kernel) (pa_cons (pv 0) pa_nil)) pe_int (nomark _)))))
  (pss_one (ps_ret pe_bl)) pss_nil)
  (pss_cons (ps_asg (pv 0) (k_tup (n := 3) K rfl (pgs_cons (pg_name (i := 1) sc_is_sign.nd rfl (Or.inl rfl)) (pgs_cons (pg_name (i := 2) sc_is_sign.nd rfl (Or.inl rfl)) (pgs_cons (pg_name (i := 3) sc_is_sign.nd rfl (Or.inl rfl)) pgs_nil)))))
  (pss_one (ps_ret (pe_and (pe_c0 (ok_is_letter T) hr (by decide) rfl (pa_cons (pv 1) pa_nil)) (pe_and (pe_c0 (ok_is_price T) hr (by decide) rfl (pa_cons (pv 2) pa_nil)) (pe_one (pe_or (pe_cmpR op_isP (pv 3) pe_non (nomark _)) (pe_one (pe_c0 (ok_is_price T) hr (by decide) rfl (pa_cons (pv 3) pa_nil))))))))))), ?_⟩)
  · obtain ⟨x, d, rfl, _⟩ := h
    rfl
  · obtain ⟨x, d, rfl, hd, q⟩ := h
    rw [st_is_sign]
    walk_at "st"
    rcases hd.split with ⟨rfl, rfl⟩ | ⟨b, rfl, rfl⟩ | ⟨i, rfl, rfl⟩ | ⟨z, rfl, rfl, hz⟩ | ⟨a, xs, ds, rfl, rfl, h1, h2, hn⟩ | ⟨a, xs, ds, rfl, rfl, h1, h2, hn⟩ | ⟨a, rfl, rfl, h1⟩
    case inr.inr.inr.inr.inr.inl =>
      have no : isSignD (.tuple ds) = false → Q (.bl false) H := fun h => by rwa [h] at q
      have hl := h2.length
      walk_at "rd"
      refine r_nite (fun h3 => ?_) (fun h3 => ?_)
      · walk_at "rd"
        refine no ?_
        match ds, hl with
        | [], _ => rfl
        | [_], _ => rfl
        | [_, _], _ => rfl
        | [_, _, _], hl => exact absurd (by rw [hl]; rfl) h3
        | _ :: _ :: _ :: _ :: _, _ => rfl
      · match ds, h2 with
        | [], h2 => exact absurd h3 (by rw [hl]; decide)
        | [_], h2 => exact absurd h3 (by rw [hl]; simp)
        | [_, _], h2 => exact absurd h3 (by rw [hl]; simp)
        | _ :: _ :: _ :: _ :: _, h2 => exact absurd h3 (by rw [hl]; simp; omega)
        | [d1, d2, d3], h2 =>
          obtain ⟨v1, vs1, rfl, g1, h2⟩ := h2.cons_inv
          obtain ⟨v2, vs2, rfl, g2, h2⟩ := h2.cons_inv
          obtain ⟨v3, vs3, rfl, g3, h2⟩ := h2.cons_inv
          obtain rfl := h2.nil_inv
          walk_at "rd"
          refine ⟨v1, d1, rfl, g1, ?_⟩
          have q2 : Q (.bl (isLetter d1 && (isPrice d2 && (isNone d3 || isPrice d3)))) H := q
          cases e1 : isLetter d1 with
          | false =>
            rw [e1] at q2
            walk_at "rd"
            exact q2
          | true =>
            rw [e1] at q2
            walk_at "rd"
            refine ⟨v2, d2, rfl, g2, ?_⟩
            cases e2 : isPrice d2 with
            | false =>
              rw [e2] at q2
              walk_at "rd"
              exact q2
            | true =>
              rw [e2] at q2
              walk_at "rd"
              refine ⟨rfl, ?_⟩
              rw [none_dq g3]
              cases e3 : isNone d3 with
              | true =>
                rw [e3] at q2
                walk_at "rd"
                exact q2
              | false =>
                rw [e3] at q2
                walk_at "rd"
                refine ⟨v3, d3, rfl, g3, ?_⟩
                exact q2
    all_goals
      walk_at "rd"
      exact q
theorem sign_tup {H : Hp} {v : V} {d : PyData} (h : Dq H v d) (e : isSignD d = true) : ∃ T c v2 v3 d2 d3, v = .ref T ∧ H T = some (.tup [.str (S [c]), v2, v3]) ∧ d = .tuple [.str (S [c]), d2, d3] ∧ Dq H v2 d2 ∧ Dq H v3 d3 := by
  rcases h.split with ⟨rfl, rfl⟩ | ⟨b, rfl, rfl⟩ | ⟨i, rfl, rfl⟩ | ⟨z, rfl, rfl, hz⟩ | ⟨a, xs, ds, rfl, rfl, h1, h2, hn⟩ | ⟨a, xs, ds, rfl, rfl, h1, h2, hn⟩ | ⟨a, rfl, rfl, h1⟩
  case inr.inr.inr.inr.inr.inl =>
    match ds, h2 with
    | [], _ => cases e
    | [_], _ => cases e
    | [_, _], _ => cases e
    | _ :: _ :: _ :: _ :: _, _ => cases e
    | [d1, d2, d3], h2 =>
      obtain ⟨v1, vs1, rfl, g1, h2⟩ := h2.cons_inv
      obtain ⟨v2, vs2, rfl, g2, h2⟩ := h2.cons_inv
      obtain ⟨v3, vs3, rfl, g3, h2⟩ := h2.cons_inv
      obtain rfl := h2.nil_inv
      have e2 : (isLetter d1 && (isPrice d2 && (isNone d3 || isPrice d3))) = true := e
      obtain ⟨c, rfl, rfl⟩ := letter_str g1 (Bool.and_eq_true_iff.mp e2).1
      exact ⟨a, c, v2, v3, d2, d3, rfl, h1, rfl, g2, g3⟩
  all_goals cases e
theorem sign_one {H : Hp} {v : V} {d : PyData} (h : Dq H v d) (e : isSignD d = true) : ∃ T v2 v3, v = .ref T ∧ H T = some (.tup [.str (signName d), v2, v3]) := by
  obtain ⟨T, c, v2, v3, d2, d3, h1, h2, rfl, _⟩ := sign_tup h e
  exact ⟨T, v2, v3, h1, h2⟩
theorem all_mapD (l : List PyData) (p : PyData → Bool) : (l.map p).all id = l.all p := by
  rw [List.all_map]
  rfl
def sp_are_signs : Sp := fun vs H Q _ => ∃ x d, vs = [x] ∧ Dq H x d ∧ ∀ H', Same H H' → Q (.bl (areSigns d)) H'
theorem ok_are_signs (T : Txt K mg) : Z.C0 P w K mg base 5 "are_signs" (sp_are_signs) := by
  refine T.d_are_signs.c0 sc_are_signs (fun vs H Q E h => ?_) (Z.bd0 fun _ _ _ _ _ _ us hl => match us, hl with | [_], _ => rfl) (fun f cdv A outer s H vs Q E hr h => ⟨_, (pss_cons (ps_if (PW.pt (pw_or (pt_not (pt_val (pe_callB (k_isi K) rfl T.b_isinstance (by decide +kernel) (pa_cons (pv 0) (pa_cons (pe_bltn (v := .ty "list") rfl T.b_list (by decide +kernel) rfl) pa_nil))))) (pw_or1 (pt_not (pt_chain op_leI op_leI (C8.pe_gc rfl T.c_FEWEST_SIGNS_tongues) (pe_callB (k_len K) rfl T.b_len (by decide +kernel) (pa_cons (pv 0) pa_nil)) (C8.pe_gc rfl T.c_MOST_SIGNS_tongues))))))
  (pss_one (ps_ret pe_bl)) pss_nil)
  (pss_cons (ps_if (pt_not (pt_val (pe_callB (k_all K rfl) rfl T.b_all (by decide +kernel) (pa_cons (pe_lc (own := [("one", 1)]) rfl sc_are_signs.nd (k_iL K (pv 0)) (blkOk_by (N := ["thing", "one"]) (sc := defScope s_are_signs) (by decide +kernel)) (fun _ _ _ _ _ => (pg_name (i := 1) sc_are_signs.nd rfl (Or.inl rfl))) (fun _ _ _ _ _ => pts_nil) (fun _ _ _ _ _ => (pe_c0 (ok_is_sign T) hr (by decide) rfl (pa_cons (pv 1) pa_nil)))) pa_nil))))
  (pss_one (ps_ret pe_bl)) pss_nil)
  (pss_one (ps_ret (pe_cmpR (k_eqP K hr.units) (pe_lenSetS K rfl rfl T.b_len rfl T.b_set (pe_lc (own := [("one", 1)]) rfl sc_are_signs.nd (k_iL K (pv 0)) (blkOk_by (N := ["thing", "one"]) (sc := defScope s_are_signs) (by decide +kernel)) (fun _ _ _ _ _ => (pg_name (i := 1) sc_are_signs.nd rfl (Or.inl rfl))) (fun _ _ _ _ _ => pts_nil) (fun _ _ _ _ _ => (pe_ix (k_ix K) (pv 1) pe_int (fun _ _ => rfl))))) (pe_callB (k_len K) rfl T.b_len (by decide +kernel) (pa_cons (pv 0) pa_nil)) (nomark _)))))), ?_⟩)
  · obtain ⟨x, d, rfl, _⟩ := h
    rfl
  · obtain ⟨x, d, rfl, hd, q⟩ := h
    rw [st_are_signs]
    walk_at "st"
    rcases hd.split with ⟨rfl, rfl⟩ | ⟨b, rfl, rfl⟩ | ⟨i, rfl, rfl⟩ | ⟨z, rfl, rfl, hz⟩ | ⟨a, xs, ds, rfl, rfl, h1, h2, hn⟩ | ⟨a, xs, ds, rfl, rfl, h1, h2, hn⟩ | ⟨a, rfl, rfl, h1⟩
    case inr.inr.inr.inr.inl =>
      have hl := h2.length
      have out : ∀ H', Same H H' → ¬ (2 ≤ ds.length ∧ ds.length ≤ 6) → Q (.bl false) H' := fun H' e h => by
        have := q H' e
        have e2 : areSigns (.list ds) = (decide (2 ≤ ds.length ∧ ds.length ≤ 6) && (ds.all isSignD && decide ((ds.map signName).Nodup))) := rfl
        rwa [e2, decide_eq_false h] at this
      walk_at "rd"
      refine r_ite (fun h3 => ?_) (fun h3 => ?_)
      · walk_at "rd"
        refine r_nite (fun h4 => ?_) (fun h4 => ?_)
        · walk_at "rd"
          exact out H (Same.refl _) (by omega)
        · have hh : 2 ≤ ds.length ∧ ds.length ≤ 6 := ⟨by omega, by omega⟩
          have q2 : ∀ H', Same H H' → Q (.bl (ds.all isSignD && decide ((ds.map signName).Nodup))) H' := fun H' e => by
            have := q H' e
            have e2 : areSigns (.list ds) = (decide (2 ≤ ds.length ∧ ds.length ≤ 6) && (ds.all isSignD && decide ((ds.map signName).Nodup))) := rfl
            rwa [e2, decide_eq_true hh, Bool.true_and] at this
          walk_at "rd"
          refine lcW (walk_list (xs := xs)) (fun i acc _ => acc = ((ds.take i).map isSignD).map V.bl) rfl (fun _ _ => by walk_at "lk") (fun _ _ => rfl) ?_ ?_
          · rintro i x acc Dl H1 H2 hi hD e1 e2 hl2 rfl y
            obtain ⟨rfl, hx⟩ := y
            have hi2 : i < ds.length := by omega
            obtain rfl : xs[i] = x := Option.some.inj ((List.getElem?_eq_getElem hi).symm.trans hx)
            have gi : Dq H xs[i] ds[i] := h2.get i hi hi2
            walk_at "rd"
            refine ⟨xs[i], ds[i], rfl, by walk_at "lk", ?_⟩
            refine lc_put (by omega) hD e1 e2 hl2 fun H5 _ _ => ?_
            rw [← List.take_append_getElem hi2, List.map_append, List.map_append]
            rfl
          · rintro acc Dl H1 hD e1 e2 rfl
            rw [hl, List.take_length] at e2
            walk_at "rd"
            refine r_all (sqL e2) ?_
            rw [all_mapD]
            cases e : ds.all isSignD with
            | false =>
              rw [e] at q2
              walk_at "rd"
              exact q2 _ e1
            | true =>
              rw [e] at q2
              walk_at "rd"
              refine lcW (walk_list (xs := xs)) (fun i acc _ => acc = ((ds.take i).map signName).map V.str) rfl (fun _ _ => by walk_at "lk") (fun _ _ => rfl) ?_ ?_
              · rintro i x acc Dl H2 H3 hi hD e3 e4 hl2 rfl y
                obtain ⟨rfl, hx⟩ := y
                have hi2 : i < ds.length := by omega
                obtain rfl : xs[i] = x := Option.some.inj ((List.getElem?_eq_getElem hi).symm.trans hx)
                obtain ⟨T, v2, v3, ex, hT⟩ := sign_one (h2.get i hi hi2) (List.all_eq_true.mp e _ (List.getElem_mem hi2))
                rw [ex]
                walk_at "rd"
                refine lc_put (by omega) hD e3 e4 hl2 fun H5 _ _ => ?_
                rw [← List.take_append_getElem hi2, List.map_append, List.map_append]
                rfl
              · rintro acc D2 H2 hD2 e3 e4 rfl
                rw [hl, List.take_length] at e4
                refine ⟨D2, ds.map signName, rfl, sqL e4, by rw [List.length_map]; omega, ?_⟩
                walk_at "rd"
                have hnd := cntS_nd (ds.map signName) (ds.map signName).length (Nat.le_refl _)
                rw [List.take_length] at hnd
                rw [show decide (((cntS (ds.map signName) (ds.map signName).length : Nat) : Int) = ((xs.length : Nat) : Int)) = decide ((ds.map signName).Nodup) by
                  rw [decide_eq_decide, ← hnd, List.length_map, hl]
                  omega]
                exact q2 _ (e1.trans e3)
      · walk_at "rd"
        exact out H (Same.refl _) (by omega)
    all_goals
      walk_at "rd"
      exact q _ (Same.refl _)
end
end My

namespace My
open PySem PySem.Spec PyProof.Rows L2 Z M SX TL
section
variable {P : Program} {w : World} {K : PySem.W.Frag} {mg : Str → Option Value} {base : Heap}
theorem inV_strs (z : Str) (ls : List Str) : inV (.str z) (ls.map V.str) = decide (z ∈ ls) := by
  unfold inV
  rw [Bool.eq_iff_iff, decide_eq_true_iff, List.any_eq_true]
  constructor
  · rintro ⟨v, hv, e⟩
    obtain ⟨y, hy, rfl⟩ := List.mem_map.mp hv
    have : y = z := by simpa [eqV] using e
    exact this ▸ hy
  · intro h
    exact ⟨.str z, List.mem_map.mpr ⟨z, h, rfl⟩, by simp [eqV]⟩
theorem flat_strs (ls : List Str) : (ls.map V.str).all flatV = true := by
  rw [List.all_map]
  exact List.all_eq_true.mpr fun _ _ => rfl
theorem strs_take {H : Hp} {n : Nat} {ls : List Str} : ∀ {xs : List V} {ds : List PyData}, DqAll H xs ds → ∀ i, (ds.take i).all (textOk n ls) = true → xs.take i = ((ds.take i).map strOf).map V.str
  | _, _, .nil, i, _ => by rw [List.take_nil, List.take_nil]; rfl
  | _, _, .cons _ _, 0, _ => rfl
  | _, _, .cons (v := v) (d := d) h r, i + 1, e => by
    rw [List.take_succ_cons, List.all_cons, Bool.and_eq_true_iff] at e
    rw [List.take_succ_cons, List.take_succ_cons, List.map_cons, List.map_cons, ← strs_take r i e.2]
    have : v = V.str (strOf d) := by
      cases h with
      | str z hz => rfl
      | _ => cases e.1
    rw [this]
def sp_unlike (K : PySem.W.Frag) : Sp := fun vs H Q _ => ∃ (x : V) (d : PyData) (n : Nat) (L : Addr) (ls : List Str), vs = [x, .int n, .ref L] ∧ Dq H x d ∧ H L = some (.lst (ls.map V.str)) ∧ ∀ H', Same H H' → Q (.bl (unlikeOk n ls d)) H'
theorem ok_are_unlike_texts (T : Txt K mg) : Z.C0 P w K mg base 1 "are_unlike_texts" (sp_unlike K) := by
  refine T.d_are_unlike_texts.c0 sc_are_unlike_texts (fun vs H Q E h => ?_) (Z.bd0 fun _ _ _ _ _ _ us hl => match us, hl with | [_, _, _], _ => rfl) (fun f cdv A outer s H vs Q E hr h => ⟨_, (pss_cons (ps_if (pt_not (pt_val (pe_callB (k_isi K) rfl T.b_isinstance (by decide +kernel) (pa_cons (pv 0) (pa_cons (pe_bltn (v := .ty "list") rfl T.b_list (by decide +kernel) rfl) pa_nil)))))
  (pss_one (ps_ret pe_bl)) pss_nil)
  (pss_cons (ps_for PassesOwn.never rfl (k_iE K (by rfl) T.b_enumerate (pa_cons (pv 0) pa_nil)) (k_tup (n := 2) K rfl (pgs_cons (pg_name (i := 3) sc_are_unlike_texts.nd rfl (Or.inl rfl)) (pgs_cons (pg_name (i := 4) sc_are_unlike_texts.nd rfl (Or.inl rfl)) pgs_nil)))
  (pss_cons (ps_if (PW.pt (pw_or (pt_not (pt_val (pe_callB (k_isi K) rfl T.b_isinstance (by decide +kernel) (pa_cons (pv 4) (pa_cons (pe_bltn (v := .ty "str") rfl T.b_str (by decide +kernel) rfl) pa_nil))))) (pw_or (pt_cmpR (k_neP K hr.units) (pe_callB (k_len K) rfl T.b_len (by decide +kernel) (pa_cons (pv 4) pa_nil)) (pv 1) (nomark _)) (pw_or1 (pt_cmpR (k_inP K) (pv 4) (pe_slice (k_sl K) (pv 0) po_none (po_some (pv 3))) (by rfl))))))
  (pss_one (ps_ret pe_bl)) pss_nil)
  (pss_one (ps_if (pt_not (pt_val (pe_callB (k_all K rfl) rfl T.b_all (by decide +kernel) (pa_cons (pe_lc (own := [("sign", 5)]) rfl sc_are_unlike_texts.nd (pi_str (pv 4)) (blkOk_by (N := ["thing", "size", "letters", "at", "one", "sign"]) (sc := defScope s_are_unlike_texts) (by decide +kernel)) (fun _ _ _ _ _ => (pg_name (i := 5) sc_are_unlike_texts.nd rfl (Or.inl rfl))) (fun _ _ _ _ _ => pts_nil) (fun _ _ _ _ _ => (pe_cmpR (k_inP K) (pv 5) (pv 2) (by rfl)))) pa_nil))))
  (pss_one (ps_ret pe_bl)) pss_nil))))
  (pss_one (ps_ret pe_bl)))), ?_⟩)
  · obtain ⟨x, d, n, L, ls, rfl, _⟩ := h
    rfl
  · obtain ⟨x, d, n, L, ls, rfl, hd, hL, q⟩ := h
    rw [st_are_unlike_texts]
    walk_at "st"
    rcases hd.split with ⟨rfl, rfl⟩ | ⟨b, rfl, rfl⟩ | ⟨i, rfl, rfl⟩ | ⟨z, rfl, rfl, hz⟩ | ⟨a, xs, ds, rfl, rfl, h1, h2, hn⟩ | ⟨a, xs, ds, rfl, rfl, h1, h2, hn⟩ | ⟨a, rfl, rfl, h1⟩
    case inr.inr.inr.inr.inl =>
      have hl := h2.length
      have eu : unlikeOk n ls (.list ds) = (ds.all (textOk n ls) && decide ((ds.map strOf).Nodup)) := rfl
      rw [eu] at q
      walk_at "rd"
      refine forW (walk_enum (xs := xs)) (fun i σ H2 => ∃ (z3 z4 : Option V), σ = [some (.ref a), some (.int n), some (.ref L), z3, z4, none] ∧ Same H H2 ∧ (ds.take i).all (textOk n ls) = true ∧ ((ds.take i).map strOf).Nodup) ⟨none, none, rfl, Same.refl _, rfl, List.nodup_nil⟩ (fun i σ H2 _ ⟨_, _, _, e, _⟩ => by walk_at "lk") ?_ ?_
      · rintro i x σ H2 H3 hi ⟨z3, z4, rfl, e2, ht, hnd⟩ y
        obtain ⟨T1, x1, x2, rfl, hT, rfl, hx1, hx2⟩ := y
        have e3 : Same H2 (upd H2 T1 (.tup [x1, x2])) := Same.new hT
        have f3 : (upd H2 T1 (.tup [x1, x2])) T1 = some (.tup [x1, x2]) := upd_same
        revert e3 f3
        generalize upd H2 T1 (.tup [x1, x2]) = H3
        intro e3 f3
        obtain rfl : V.int (i : Nat) = x1 := Option.some.inj hx1
        have hi2 : i < ds.length := by omega
        obtain rfl : xs[i] = x2 := Option.some.inj ((List.getElem?_eq_getElem hi).symm.trans hx2)
        have gi : Dq H xs[i] ds[i] := h2.get i hi hi2
        have es : Same H H3 := e2.trans e3
        have hx : xs.take i = ((ds.take i).map strOf).map V.str := strs_take h2 i ht
        have tk : ds.take (i + 1) = ds.take i ++ [ds[i]] := (List.take_append_getElem hi2).symm
        have bad : ∀ H', Same H H' → textOk n ls ds[i] = false → Q (.bl false) H' := fun H' e h => by
          have := q H' e
          have e2 : ds.all (textOk n ls) = false := by
            rw [Bool.eq_false_iff]
            intro z
            rw [List.all_eq_true.mp z _ (List.getElem_mem hi2)] at h
            cases h
          rwa [e2] at this
        walk_at "rd"
        have hdi := gi
        revert hdi
        generalize xs[i] = v
        generalize hde : ds[i] = de
        intro hdi
        rcases hdi.split with ⟨rfl, rfl⟩ | ⟨b, rfl, rfl⟩ | ⟨j, rfl, rfl⟩ | ⟨z, rfl, rfl, hz⟩ | ⟨b, ys, qs, rfl, rfl, k1, k2, kn⟩ | ⟨b, ys, qs, rfl, rfl, k1, k2, kn⟩ | ⟨b, rfl, rfl, k1⟩
        case inr.inr.inr.inl =>
          have el := len_tl z
          have et : textOk n ls (.str z) = (decide (z.length = n) && (tl z).all fun c => decide (S [c] ∈ ls)) := rfl
          refine r_bF rfl ?_
          walk_at "rd"
          refine r_nite (fun h3 => ?_) (fun h3 => ?_)
          · walk_at "rd"
            refine bad _ es ?_
            rw [hde, et, decide_eq_false (p := z.length = n) (by omega)]
            rfl
          · have h3' : z.length = n := by omega
            walk_at "rd"
            intro l4 H4 hl4 e4 f4
            rw [cut_to xs i, hx] at f4
            walk_at "rd"
            refine r_inL (xs := ((ds.take i).map strOf).map V.str) (sqL f4) ?_ rfl (flat_strs _)
            rw [inV_strs]
            walk_at "rd"
            refine r_ite (fun h5 => ?_) (fun h5 => ?_)
            · walk_at "rd"
              have := q H4 (es.trans e4)
              rw [decide_eq_false (p := (ds.map strOf).Nodup) (fun hh => ?_), Bool.and_false] at this
              · exact this
              · have h6 : (ds.take (i + 1)).map strOf = (ds.take i).map strOf ++ [z] := by
                  rw [tk, List.map_append, hde]
                  rfl
                have h7 : ((ds.take (i + 1)).map strOf).Nodup := hh.sublist (List.Sublist.map _ (List.take_sublist _ _))
                rw [h6, List.nodup_append] at h7
                exact h7.2.2 _ h5 _ List.mem_cons_self rfl
            · walk_at "rd"
              refine lcW walk_str (fun k acc _ => acc = (((tl z).take k).map fun c => decide (S [c] ∈ ls)).map V.bl) rfl (fun _ _ => trivial) (fun _ _ => rfl) ?_ ?_
              · rintro k x acc Dl _ G1 hk hD e5 e6 hl2 rfl ⟨rfl, c, hc, rfl⟩
                have hc2 : (tl z)[k]? = some c := by simpa [tl] using hc
                have hL2 : G1 L = some (.lst (ls.map V.str)) := e5 _ _ (e4 _ _ (es _ _ hL))
                walk_at "rd"
                refine r_inL (xs := ls.map V.str) (sqL hL2) ?_ rfl (flat_strs _)
                rw [inV_strs]
                refine lc_put (by have := (List.getElem?_eq_some_iff.mp hc2).1; omega) hD e5 e6 hl2 fun H5 _ _ => ?_
                rw [List.take_add_one, hc2]
                simp
              · rintro acc Dl G1 hD e5 e6 rfl
                have en : z.cps.size = (tl z).length := by simp [tl]
                rw [en, List.take_length] at e6
                have eg : Same H G1 := es.trans (e4.trans e5)
                clear e4
                walk_at "rd"
                refine r_all (sqL e6) ?_
                rw [show (((tl z).map fun c => decide (S [c] ∈ ls)).all id) = (tl z).all fun c => decide (S [c] ∈ ls) by rw [List.all_map]; rfl]
                cases hal : (tl z).all fun c => decide (S [c] ∈ ls) with
                | false =>
                  walk_at "rd"
                  refine bad _ eg ?_
                  rw [hde, et, hal, Bool.and_false]
                | true =>
                  walk_at "rd"
                  refine ⟨_, _, rfl, eg, ?_, ?_⟩
                  · rw [tk, List.all_append, ht, hde, List.all_cons, et, decide_eq_true h3', hal]
                    rfl
                  · rw [tk, List.map_append, hde, List.nodup_append]
                    refine ⟨hnd, List.pairwise_singleton _ _, fun a ha b hb => ?_⟩
                    have : b = z := List.mem_singleton.mp hb
                    subst this
                    exact fun e => h5 (e ▸ ha)
        all_goals
          refine r_bT rfl ?_
          walk_at "rd"
          exact bad _ es (by rw [hde]; rfl)
      · rintro σ H2 ⟨z3, z4, rfl, e2, ht, hnd⟩
        walk_at "rd"
        have := q H2 e2
        rw [hl, List.take_length] at ht hnd
        rwa [ht, decide_eq_true hnd] at this
    all_goals
      walk_at "rd"
      exact q _ (Same.refl _)
def tongueQ (K : PySem.W.Frag) (r : Option V) (H : Hp) (Q : VK) (E : XK) : Prop := match r with
  | none => ∀ H', Same H H' → Q .non H'
  | some y => rais K "NoTongue" "part" y H E
def sp_look_tongue (K : PySem.W.Frag) : Sp := fun vs H Q E => ∃ x d, vs = [x] ∧ Dq H x d ∧ tongueQ K (tongueErr d) H Q E
theorem signs_list {H : Hp} {v : V} {d : PyData} (h : Dq H v d) (e : areSigns d = true) : ∃ (a : Addr) (xs : List V) (ds : List PyData), v = .ref a ∧ d = .list ds ∧ H a = some (.lst xs) ∧ DqAll H xs ds ∧ ds.all isSignD = true ∧ 2 ≤ ds.length ∧ ds.length ≤ 6 ∧ (ds.map signName).Nodup := by
  rcases h.split with ⟨rfl, rfl⟩ | ⟨b, rfl, rfl⟩ | ⟨i, rfl, rfl⟩ | ⟨z, rfl, rfl, hz⟩ | ⟨a, xs, ds, rfl, rfl, h1, h2, hn⟩ | ⟨a, xs, ds, rfl, rfl, h1, h2, hn⟩ | ⟨a, rfl, rfl, h1⟩
  case inr.inr.inr.inr.inl =>
    have e2 : (decide (2 ≤ ds.length ∧ ds.length ≤ 6) && (ds.all isSignD && decide ((ds.map signName).Nodup))) = true := e
    rw [Bool.and_eq_true_iff, Bool.and_eq_true_iff, decide_eq_true_iff, decide_eq_true_iff] at e2
    exact ⟨a, xs, ds, rfl, rfl, h1, h2, e2.2.1, e2.1.1, e2.1.2, e2.2.2⟩
  all_goals cases e
theorem oki_NoTongue (T : Txt K mg) : Z.Oi P w K mg base "NoTongue" "part" := by
  refine T.i_NoTongue.oi sci_NoTongue (fun _ _ _ _ _ _ us hl => match us, hl with | [_, _], _ => rfl) (fun cdv A outer s H vs Q E hr h => ⟨_, (pss_cons (ps_expr (pe_dearI rfl T.k_DearError T.ex.d (pa_cons (pv 0) (pa_cons (pe_joined (PJ.cons pe_str (PJ.cons (pe_fmtN (pv 1)) PJ.nil))) pa_nil))))
  (pss_one (ps_ost (pv 0) (pv 1)))), ?_⟩)
  obtain ⟨a, y, rfl, ha, hf, q⟩ := h
  rw [sti_NoTongue]
  walk_at "st"
  walk_at "rd"
  refine r_fmtNV hf (fun z hz => ?_)
  refine r_jsV (by decide) hz (fun z => ?_)
  walk_at "rd"
  refine ⟨a, _, _, rfl, by simp, (T.ex.i ("NoTongue", "part") (by simp)).oe, ha, ?_⟩
  walk_at "rd"
  exact ⟨a, _, rfl, (T.ex.i ("NoTongue", "part") (by simp)).oe, (T.ex.i ("NoTongue", "part") (by simp)).no, Or.inl ⟨ha, fun d h1 h2 => q d h1 h2⟩⟩
theorem ok_look_at_tongue (T : Txt K mg) : Z.CE P w K mg base 6 "look_at_tongue" (sp_look_tongue K) := by
  refine T.d_look_at_tongue.ce sc_look_at_tongue (fun vs H Q E h => ?_) (Z.bd0 fun _ _ _ _ _ _ us hl => match us, hl with | [_], _ => rfl) (fun f cdv A outer s H vs Q E hr h => ⟨_, (pss_cons (ps_if (PW.pt (pw_or (pt_not (pt_val (pe_callB (k_isi K) rfl T.b_isinstance (by decide +kernel) (pa_cons (pv 0) (pa_cons (pe_bltn (v := .ty "tuple") rfl T.b_tuple (by decide +kernel) rfl) pa_nil))))) (pw_or1 (pt_cmpR (k_neP K hr.units) (pe_callB (k_len K) rfl T.b_len (by decide +kernel) (pa_cons (pv 0) pa_nil)) pe_int (nomark _)))))
  (pss_one (ps_raiO K rfl (takes_of rfl rfl rfl rfl) (T.ex.i ("NoTongue", "part") (by simp)) (oki_NoTongue T) hr (by decide) rfl (pa_cons pe_non pa_nil))) pss_nil)
  (pss_cons (ps_asg (pv 0) (k_tup (n := 4) K rfl (pgs_cons (pg_name (i := 1) sc_look_at_tongue.nd rfl (Or.inl rfl)) (pgs_cons (pg_name (i := 2) sc_look_at_tongue.nd rfl (Or.inl rfl)) (pgs_cons (pg_name (i := 3) sc_look_at_tongue.nd rfl (Or.inl rfl)) (pgs_cons (pg_name (i := 4) sc_look_at_tongue.nd rfl (Or.inl rfl)) pgs_nil))))))
  (pss_cons (ps_if (pt_not (pt_val (pe_c0 (ok_are_signs T) hr (by decide) rfl (pa_cons (pv 1) pa_nil))))
  (pss_one (ps_raiO K rfl (takes_of rfl rfl rfl rfl) (T.ex.i ("NoTongue", "part") (by simp)) (oki_NoTongue T) hr (by decide) rfl (pa_cons pe_str pa_nil))) pss_nil)
  (pss_cons (ps_setLc (i := 5) (own := [("one", 6)]) rfl sc_look_at_tongue.nd rfl rfl (sw_true rfl rfl rfl (by decide +kernel)) (k_iL K (pv 1)) (blkOk_by (N := ["thing", "signs", "firsts", "pairs", "longest", "letters", "one"]) (sc := defScope s_look_at_tongue) (by decide +kernel)) (fun _ _ _ _ _ => (pg_name (i := 6) sc_look_at_tongue.nd rfl (Or.inl rfl))) (fun _ _ _ _ _ => pts_nil) (fun _ _ _ _ _ => (pe_ix (k_ix K) (pv 6) pe_int (fun _ _ => rfl))))
  (pss_cons (ps_if (pt_not (pt_val (pe_c0 (ok_are_unlike_texts T) hr (by decide) rfl (pa_cons (pv 2) (pa_cons pe_int (pa_cons (pv 5) pa_nil))))))
  (pss_one (ps_raiO K rfl (takes_of rfl rfl rfl rfl) (T.ex.i ("NoTongue", "part") (by simp)) (oki_NoTongue T) hr (by decide) rfl (pa_cons pe_str pa_nil))) pss_nil)
  (pss_cons (ps_if (pt_not (pt_val (pe_c0 (ok_are_unlike_texts T) hr (by decide) rfl (pa_cons (pv 3) (pa_cons pe_int (pa_cons (pv 5) pa_nil))))))
  (pss_one (ps_raiO K rfl (takes_of rfl rfl rfl rfl) (T.ex.i ("NoTongue", "part") (by simp)) (oki_NoTongue T) hr (by decide) rfl (pa_cons pe_str pa_nil))) pss_nil)
  (pss_one (ps_if (PW.pt (pw_or (pt_not (pt_val (pe_c0 (ok_is_whole T) hr (by decide) rfl (pa_cons (pv 4) pa_nil)))) (pw_or1 (pt_not (pt_chain op_leI op_leI pe_int (pv 4) (C8.pe_gc rfl T.c_LONGEST_tongues))))))
  (pss_one (ps_raiO K rfl (takes_of rfl rfl rfl rfl) (T.ex.i ("NoTongue", "part") (by simp)) (oki_NoTongue T) hr (by decide) rfl (pa_cons pe_str pa_nil))) pss_nil)))))))), ?_⟩)
  · obtain ⟨x, d, rfl, _⟩ := h
    rfl
  · obtain ⟨x, d, rfl, hd, q⟩ := h
    rw [st_look_at_tongue]
    walk_at "st"
    have bad : ∀ d, tongueErr d = some .non → tongueQ K (tongueErr d) H Q E → rais K "NoTongue" "part" .non H E := fun d e h => by
      rw [e] at h
      exact h
    rcases hd.split with ⟨rfl, rfl⟩ | ⟨b, rfl, rfl⟩ | ⟨i, rfl, rfl⟩ | ⟨z, rfl, rfl, hz⟩ | ⟨a, xs, ds, rfl, rfl, h1, h2, hn⟩ | ⟨a, xs, ds, rfl, rfl, h1, h2, hn⟩ | ⟨a, rfl, rfl, h1⟩
    case inr.inr.inr.inr.inr.inl =>
      have hl := h2.length
      walk_at "rd"
      refine r_nite (fun h3 => ?_) (fun h3 => ?_)
      · walk_at "rd"
        refine r_raiE (.inl rfl) (fun d hd => ?_)
        have : tongueErr (.tuple ds) = some .non := by
          match ds, hl with
          | [], _ => rfl
          | [_], _ => rfl
          | [_, _], _ => rfl
          | [_, _, _], _ => rfl
          | [_, _, _, _], hl => exact absurd (by rw [hl]; rfl) h3
          | _ :: _ :: _ :: _ :: _ :: _, _ => rfl
        exact bad _ this q d _ hd (Same.new hd) upd_same
      · match ds, h2 with
        | [], h2 => exact absurd h3 (by rw [hl]; decide)
        | [_], h2 => exact absurd h3 (by rw [hl]; simp)
        | [_, _], h2 => exact absurd h3 (by rw [hl]; simp)
        | [_, _, _], h2 => exact absurd h3 (by rw [hl]; simp)
        | _ :: _ :: _ :: _ :: _ :: _, h2 => exact absurd h3 (by rw [hl]; simp; omega)
        | [d1, d2, d3, d4], h2 =>
          obtain ⟨v1, vs1, rfl, g1, h2⟩ := h2.cons_inv
          obtain ⟨v2, vs2, rfl, g2, h2⟩ := h2.cons_inv
          obtain ⟨v3, vs3, rfl, g3, h2⟩ := h2.cons_inv
          obtain ⟨v4, vs4, rfl, g4, h2⟩ := h2.cons_inv
          obtain rfl := h2.nil_inv
          have et : tongueErr (.tuple [d1, d2, d3, d4]) = if areSigns d1 = false then some (.str "signs") else if unlikeOk 1 (lettersOf d1) d2 = false then some (.str "firsts") else if unlikeOk 2 (lettersOf d1) d3 = false then some (.str "pairs") else if longOk d4 = false then some (.str "longest") else none := rfl
          rw [et] at q
          walk_at "rd"
          refine ⟨v1, d1, rfl, g1, fun H1 e1 => ?_⟩
          cases k1 : areSigns d1 with
          | false =>
            rw [k1, if_pos rfl] at q
            walk_at "rd"
            refine r_raiE (.inr (.inl ⟨_, rfl, by decide +kernel⟩)) (fun d hd => ?_)
            exact q d _ (Z.fr hd e1) (e1.trans (Same.new hd)) upd_same
          | true =>
            rw [k1, if_neg (by decide)] at q
            obtain ⟨a1, ys, es, rfl, rfl, y1, y2, y3, y4, y5, y6⟩ := signs_list g1 k1
            have yl := y2.length
            have q : tongueQ K (if unlikeOk 1 (es.map signName) d2 = false then some (.str "firsts") else if unlikeOk 2 (es.map signName) d3 = false then some (.str "pairs") else if longOk d4 = false then some (.str "longest") else none) H Q E := q
            walk_at "rd"
            refine lcW (walk_list (xs := ys)) (fun i acc _ => acc = ((es.take i).map signName).map V.str) rfl (fun _ _ => by walk_at "lk") (fun _ _ => rfl) ?_ ?_
            · rintro i x acc Dl H2 H3 hi hD e3 e4 hl2 rfl y
              obtain ⟨rfl, hx⟩ := y
              have hi2 : i < es.length := by omega
              obtain rfl : ys[i] = x := Option.some.inj ((List.getElem?_eq_getElem hi).symm.trans hx)
              obtain ⟨T, v2, v3, ex, hT⟩ := sign_one (y2.get i hi hi2) (List.all_eq_true.mp y3 _ (List.getElem_mem hi2))
              rw [ex]
              walk_at "rd"
              refine lc_put (by omega) hD e3 e4 hl2 fun H5 _ _ => ?_
              rw [← List.take_append_getElem hi2, List.map_append, List.map_append]
              rfl
            rintro acc D2 H2 hD2 e3 e4 rfl
            rw [yl, List.take_length] at e4
            walk_at "rd"
            refine ⟨v2, d2, 1, D2, es.map signName, rfl, by walk_at "lk", e4, fun H3 e5 => ?_⟩
            cases k2 : unlikeOk 1 (es.map signName) d2 with
            | false =>
              rw [k2, if_pos rfl] at q
              walk_at "rd"
              refine r_raiE (.inr (.inl ⟨_, rfl, by decide +kernel⟩)) (fun d hd => ?_)
              have ee := e1.trans (e3.trans e5)
              exact q d _ (Z.fr hd ee) (ee.trans (Same.new hd)) upd_same
            | true =>
              rw [k2, if_neg (by decide)] at q
              walk_at "rd"
              refine ⟨v3, d3, 2, D2, es.map signName, rfl, by walk_at "lk", by walk_at "lk", fun H4 e6 => ?_⟩
              cases k3 : unlikeOk 2 (es.map signName) d3 with
              | false =>
                rw [k3, if_pos rfl] at q
                walk_at "rd"
                refine r_raiE (.inr (.inl ⟨_, rfl, by decide +kernel⟩)) (fun d hd => ?_)
                have ee := e1.trans (e3.trans (e5.trans e6))
                exact q d _ (Z.fr hd ee) (ee.trans (Same.new hd)) upd_same
              | true =>
                rw [k3, if_neg (by decide)] at q
                walk_at "rd"
                refine ⟨v4, d4, rfl, by walk_at "lk", ?_⟩
                have ee := e1.trans (e3.trans (e5.trans e6))
                have rb : longOk d4 = false → rais K "NoTongue" "part" (.str "longest") H E := fun h => by
                  rw [h, if_pos rfl] at q
                  exact q
                rcases g4.split with ⟨rfl, rfl⟩ | ⟨b, rfl, rfl⟩ | ⟨i, rfl, rfl⟩ | ⟨z, rfl, rfl, hz⟩ | ⟨a, xs, ds, rfl, rfl, h1, h2, hn⟩ | ⟨a, xs, ds, rfl, rfl, h1, h2, hn⟩ | ⟨a, rfl, rfl, h1⟩
                case inr.inr.inl =>
                  have el : longOk (.int i) = (decide (1 ≤ i) && decide (i ≤ 8)) := rfl
                  dsimp only [isWhole]
                  walk_at "rd"
                  refine r_ite (fun h4 => ?_) (fun h4 => ?_)
                  · walk_at "rd"
                    refine r_nite (fun h5 => ?_) (fun h5 => ?_)
                    · walk_at "rd"
                      refine r_raiE (.inr (.inl ⟨_, rfl, by decide +kernel⟩)) (fun d hd => ?_)
                      exact rb (by rw [el, decide_eq_false (p := i ≤ 8) (by omega), Bool.and_false]) d _ (Z.fr hd ee) (ee.trans (Same.new hd)) upd_same
                    · rw [el, decide_eq_true (p := 1 ≤ i) (by omega), decide_eq_true (p := i ≤ 8) (by omega), if_neg (by decide)] at q
                      walk_at "rd"
                      exact q _ ee
                  · walk_at "rd"
                    refine r_raiE (.inr (.inl ⟨_, rfl, by decide +kernel⟩)) (fun d hd => ?_)
                    exact rb (by rw [el, decide_eq_false (p := 1 ≤ i) (by omega)]; rfl) d _ (Z.fr hd ee) (ee.trans (Same.new hd)) upd_same
                all_goals
                  dsimp only [isWhole]
                  walk_at "rd"
                  refine r_raiE (.inr (.inl ⟨_, rfl, by decide +kernel⟩)) (fun d hd => ?_)
                  exact rb rfl d _ (Z.fr hd ee) (ee.trans (Same.new hd)) upd_same
    all_goals
      walk_at "rd"
      refine r_raiE (.inl rfl) (fun d hd => ?_)
      exact bad _ rfl q d _ hd (Same.new hd) upd_same
end
end My

namespace My
open PySem PySem.Spec PyProof.Rows L2 Z M SX TL
section
variable {P : Program} {w : World} {K : PySem.W.Frag} {mg : Str → Option Value} {base : Heap}
/-! ### tongues that can be -/
structure Sg where
  c : Nat
  p : Nat × Nat
  l : Option (Nat × Nat)
structure Tg where
  sg : List Sg
  fi : List Str
  pa : List Str
  lo : Nat
def fracD (p : Nat × Nat) : PyData := .tuple [.int (p.1 : Nat), .int (p.2 : Nat)]
def lastD : Option (Nat × Nat) → PyData
  | none => .none
  | some p => fracD p
def sgD (s : Sg) : PyData := .tuple [.str (S [s.c]), fracD s.p, lastD s.l]
def strsD (l : List Str) : PyData := .list (l.map PyData.str)
def tgD (t : Tg) : PyData := .tuple [.list (t.sg.map sgD), strsD t.fi, strsD t.pa, .int (t.lo : Nat)]
def lettersT (t : Tg) : List Str := t.sg.map fun s => S [s.c]
structure FrOk (p : Nat × Nat) : Prop where
  t1 : 1 ≤ p.1
  b1 : 1 ≤ p.2
  g : Nat.gcd p.2 p.1 = 1
  t2 : p.1 < 10 ^ 9
  b2 : p.2 < 10 ^ 9
structure SgOk (s : Sg) : Prop where
  c : low s.c = true
  p : FrOk s.p
  l : ∀ p, s.l = some p → FrOk p
structure TgOk (t : Tg) : Prop where
  n1 : 2 ≤ t.sg.length
  n2 : t.sg.length ≤ 6
  sg : ∀ s ∈ t.sg, SgOk s
  nd : (t.sg.map Sg.c).Nodup
  f1 : ∀ z ∈ t.fi, z ∈ lettersT t
  f2 : t.fi.Nodup
  p1 : ∀ z ∈ t.pa, ∃ a b, z = S [a, b] ∧ S [a] ∈ lettersT t ∧ S [b] ∈ lettersT t
  p2 : t.pa.Nodup
  l1 : 1 ≤ t.lo
  l2 : t.lo ≤ 8
theorem fr_price {p : Nat × Nat} (h : FrOk p) : isPrice (fracD p) = true := by
  show ((decide (1 ≤ ((p.2 : Nat) : Int)) && decide (Nat.gcd ((p.2 : Nat) : Int).toNat ((p.1 : Nat) : Int).natAbs = 1)) && decide (0 < ((p.1 : Nat) : Int))) = true
  have := h.t1
  have := h.b1
  simp only [Bool.and_eq_true, decide_eq_true_eq]
  refine ⟨⟨by omega, ?_⟩, by omega⟩
  rw [Int.toNat_natCast, Int.natAbs_natCast]
  exact h.g
theorem sg_ok {s : Sg} (h : SgOk s) : isSignD (sgD s) = true := by
  show (isLetter (.str (S [s.c])) && (isPrice (fracD s.p) && (isNone (lastD s.l) || isPrice (lastD s.l)))) = true
  rw [fr_price h.p]
  have e1 : isLetter (.str (S [s.c])) = true := by
    show (decide ((tl (S [s.c])).length = 1) && (tl (S [s.c])).all low) = true
    rw [show tl (S [s.c]) = [s.c] from rfl, List.all_cons, h.c]
    rfl
  rw [e1]
  cases e : s.l with
  | none => rfl
  | some p =>
    show (true && (true && (_ || isPrice (fracD p)))) = true
    rw [fr_price (h.l p e), Bool.or_true]
    rfl
theorem S1_inj {a b : Nat} (h : S [a] = S [b]) : a = b := (List.cons.inj (SX.S_inj h)).1
theorem strOf_map (l : List Str) : (l.map PyData.str).map strOf = l := by
  rw [List.map_map]
  exact List.map_id l
theorem sgName_map (l : List Sg) : (l.map sgD).map signName = l.map fun s => S [s.c] := by
  rw [List.map_map]
  rfl
theorem unlike_ok {n : Nat} {ls l : List Str} (h1 : ∀ z ∈ l, z.length = n ∧ ∀ c ∈ tl z, S [c] ∈ ls) (h2 : l.Nodup) : unlikeOk n ls (strsD l) = true := by
  show (((l.map PyData.str).all (textOk n ls)) && decide (((l.map PyData.str).map strOf).Nodup)) = true
  rw [strOf_map, decide_eq_true h2, Bool.and_true, List.all_map]
  refine List.all_eq_true.mpr fun z hz => ?_
  obtain ⟨q1, q2⟩ := h1 z hz
  show (decide (z.length = n) && (tl z).all fun c => decide (S [c] ∈ ls)) = true
  rw [decide_eq_true q1, Bool.true_and]
  exact List.all_eq_true.mpr fun c hc => decide_eq_true (q2 c hc)
theorem letter_chars {t : Tg} {z : Str} (h : z ∈ lettersT t) : ∃ c, z = S [c] := by
  obtain ⟨s, _, rfl⟩ := List.mem_map.mp h
  exact ⟨s.c, rfl⟩
theorem tgErr_ok {t : Tg} (h : TgOk t) : tongueErr (tgD t) = none := by
  have e1 : areSigns (.list (t.sg.map sgD)) = true := by
    show (decide (2 ≤ (t.sg.map sgD).length ∧ (t.sg.map sgD).length ≤ 6) && ((t.sg.map sgD).all isSignD && decide (((t.sg.map sgD).map signName).Nodup))) = true
    have n1 := h.n1
    have n2 := h.n2
    rw [decide_eq_true (by rw [List.length_map]; exact ⟨n1, n2⟩), sgName_map, decide_eq_true, Bool.and_true, Bool.true_and, List.all_map]
    · exact List.all_eq_true.mpr fun s hs => sg_ok (h.sg s hs)
    · have := h.nd
      refine List.pairwise_map.mpr ?_
      exact (List.pairwise_map.mp this).imp fun {a b} q e => q (S1_inj e)
  have el : lettersOf (.list (t.sg.map sgD)) = lettersT t := sgName_map t.sg
  have e2 : unlikeOk 1 (lettersT t) (strsD t.fi) = true := unlike_ok (fun z hz => by
    have hz2 := h.f1 z hz
    obtain ⟨c, rfl⟩ := letter_chars hz2
    refine ⟨rfl, fun d hd => ?_⟩
    have : d = c := List.mem_singleton.mp hd
    exact this ▸ hz2) h.f2
  have e3 : unlikeOk 2 (lettersT t) (strsD t.pa) = true := unlike_ok (fun z hz => by
    obtain ⟨a, b, rfl, ha, hb⟩ := h.p1 z hz
    refine ⟨rfl, fun d hd => ?_⟩
    have hd2 : d ∈ [a, b] := hd
    simp only [List.mem_cons, List.not_mem_nil, or_false] at hd2
    rcases hd2 with rfl | rfl
    · exact ha
    · exact hb) h.p2
  have e4 : longOk (.int (t.lo : Nat)) = true := by
    show (decide (1 ≤ ((t.lo : Nat) : Int)) && decide (((t.lo : Nat) : Int) ≤ 8)) = true
    have := h.l1
    have := h.l2
    rw [decide_eq_true (by omega), decide_eq_true (by omega)]
    rfl
  show (if areSigns (.list (t.sg.map sgD)) = false then _ else if unlikeOk 1 (lettersOf (.list (t.sg.map sgD))) (strsD t.fi) = false then _ else if unlikeOk 2 (lettersOf (.list (t.sg.map sgD))) (strsD t.pa) = false then _ else if longOk (.int (t.lo : Nat)) = false then _ else none) = none
  rw [el, e1, e2, e3, e4]
  rfl
theorem frac_lay (p : Nat × Nat) : PyData.canLay0 (fracD p) = true ∧ PyData.depth (fracD p) ≤ 2 := ⟨rfl, by simp [fracD, PyData.depth, PyData.depthAll]⟩
theorem last_lay (l : Option (Nat × Nat)) : PyData.canLay0 (lastD l) = true ∧ PyData.depth (lastD l) ≤ 2 := by
  cases l with
  | none => exact ⟨rfl, by simp [lastD, PyData.depth]⟩
  | some p => exact frac_lay p
theorem low_str {c : Nat} (h : low c = true) : PyData.strOk (S [c]) = true := strOk_low (by rw [show tl (S [c]) = [c] from rfl, List.all_cons, h]; rfl)
theorem sgs_lay : ∀ l : List Sg, (∀ s ∈ l, low s.c = true) → PyData.canLayAll0 (l.map sgD) = true ∧ PyData.depthAll (l.map sgD) ≤ 5
  | [], _ => ⟨rfl, by show PyData.depthAll [] ≤ 5; decide⟩
  | s :: l, h => by
    obtain ⟨h1, h2⟩ := sgs_lay l fun s hs => h s (List.mem_cons_of_mem _ hs)
    obtain ⟨f1, f2⟩ := frac_lay s.p
    obtain ⟨g1, g2⟩ := last_lay s.l
    rw [List.map_cons, PyData.canLayAll0, PyData.depthAll, h1]
    constructor
    · show (PyData.canLay0 (.tuple [.str (S [s.c]), fracD s.p, lastD s.l]) && true) = true
      rw [PyData.canLay0, PyData.canLayAll0, PyData.canLayAll0, PyData.canLayAll0, f1, g1, PyData.canLay0, low_str (h s List.mem_cons_self)]
      rfl
    · have : PyData.depth (sgD s) ≤ 5 := by
        show PyData.depth (.tuple [.str (S [s.c]), fracD s.p, lastD s.l]) ≤ 5
        rw [PyData.depth, PyData.depthAll, PyData.depthAll, PyData.depthAll, PyData.depthAll, PyData.depth]
        omega
      omega
theorem strs_lay : ∀ l : List Str, (∀ z ∈ l, PyData.strOk z = true) → PyData.canLayAll0 (l.map PyData.str) = true ∧ PyData.depthAll (l.map PyData.str) = 0
  | [], _ => ⟨rfl, rfl⟩
  | z :: l, h => by
    obtain ⟨h1, h2⟩ := strs_lay l fun z hz => h z (List.mem_cons_of_mem _ hz)
    rw [List.map_cons, PyData.canLayAll0, PyData.depthAll, h1, h2, PyData.canLay0, h z List.mem_cons_self, PyData.depth]
    exact ⟨rfl, rfl⟩
/-- as much as == asks -/
structure TgL (t : Tg) : Prop where
  s : ∀ s ∈ t.sg, low s.c = true
  f : ∀ z ∈ t.fi, PyData.strOk z = true
  p : ∀ z ∈ t.pa, PyData.strOk z = true
theorem letter_low {t : Tg} (h : TgOk t) {c : Nat} (hz : S [c] ∈ lettersT t) : low c = true := by
  obtain ⟨s, hs, e⟩ := List.mem_map.mp hz
  rw [← S1_inj e]
  exact (h.sg s hs).c
theorem TgOk.lay {t : Tg} (h : TgOk t) : TgL t where
  s := fun s hs => (h.sg s hs).c
  f := fun z hz => by
    have q := h.f1 z hz
    obtain ⟨c, rfl⟩ := letter_chars q
    exact low_str (letter_low h q)
  p := fun z hz => by
    obtain ⟨a, b, rfl, ha, hb⟩ := h.p1 z hz
    refine strOk_low ?_
    rw [show tl (S [a, b]) = [a, b] from rfl, List.all_cons, List.all_cons, letter_low h ha, letter_low h hb]
    rfl
theorem tg_lay {t : Tg} (h : TgL t) : PyData.canLay0 (tgD t) = true ∧ PyData.depth (tgD t) ≤ 10 := by
  obtain ⟨a1, a2⟩ := sgs_lay t.sg h.s
  obtain ⟨b1, b2⟩ := strs_lay t.fi h.f
  obtain ⟨c1, c2⟩ := strs_lay t.pa h.p
  unfold tgD strsD
  constructor
  · simp only [PyData.canLay0, PyData.canLayAll0, a1, b1, c1]
    rfl
  · simp only [PyData.depth, PyData.depthAll, b2, c2]
    omega
theorem tg_shaped {t : Tg} (h : TgL t) : SeqAt.shaped (tgD t) = true := by
  obtain ⟨h1, h2⟩ := tg_lay h
  unfold SeqAt.shaped
  rw [h1, Bool.true_and]
  exact decide_eq_true (by omega)
theorem tg_eqv {t : Tg} (h : TgL t) : PyData.eqv (tgD t) (tgD t) = true := SeqAt.eqv_refl _ (tg_lay h).1
/-! in the heap -/
structure TgAt (H : Hp) (v : V) (t : Tg) (T a1 a2 a3 : Addr) (xs : List V) : Prop where
  v : v = .ref T
  ht : H T = some (.tup [.ref a1, .ref a2, .ref a3, .int (t.lo : Nat)])
  s : H a1 = some (.lst xs)
  q : DqAll H xs (t.sg.map sgD)
  f : H a2 = some (.lst (t.fi.map V.str))
  p : H a3 = some (.lst (t.pa.map V.str))
  k1 : t.fi.length ≤ 100
  k2 : t.pa.length ≤ 100
  k3 : ∀ z ∈ t.fi ++ t.pa, z.length ≤ 100
  k4 : t.sg.length ≤ 100
theorem TgAt.up {H H' : Hp} {v : V} {t : Tg} {T a1 a2 a3 : Addr} {xs : List V} (h : TgAt H v t T a1 a2 a3 xs) (e : Same H H') : TgAt H' v t T a1 a2 a3 xs := ⟨h.v, e _ _ h.ht, e _ _ h.s, h.q.up e, e _ _ h.f, e _ _ h.p, h.k1, h.k2, h.k3, h.k4⟩
theorem dq_strs {H : Hp} : ∀ {l : List Str}, (∀ z ∈ l, z.length ≤ 1000000) → DqAll H (l.map V.str) (l.map PyData.str)
  | [], _ => .nil
  | z :: l, h => .cons (.str z (h z List.mem_cons_self)) (dq_strs fun z hz => h z (List.mem_cons_of_mem _ hz))
theorem TgAt.dq {H : Hp} {v : V} {t : Tg} {T a1 a2 a3 : Addr} {xs : List V} (h : TgAt H v t T a1 a2 a3 xs) : Dq H v (tgD t) := by
  obtain ⟨rfl, ht, hs, hq, hf, hp, k1, k2, k3, k4⟩ := h
  have hl := hq.length
  rw [List.length_map] at hl
  exact .tup ht (.cons (.lst hs hq (by omega)) (.cons (.lst hf (dq_strs fun z hz => Nat.le_trans (k3 z (List.mem_append_left _ hz)) (by decide)) (by rw [List.length_map]; omega)) (.cons (.lst hp (dq_strs fun z hz => Nat.le_trans (k3 z (List.mem_append_right _ hz)) (by decide)) (by rw [List.length_map]; omega)) (.cons (.int _) .nil)))) (by simp)
end
end My

namespace My
open PySem PySem.Spec PyProof.Rows L2 Z M SX TL
section
variable {P : Program} {w : World} {K : PySem.W.Frag} {mg : Str → Option Value} {base : Heap}
theorem log_of {n : Int} (h : n.natAbs < 10 ^ 60) : n.natAbs.log2 < 1920 := by
  have h2 : (10 : Nat) ^ 60 < 2 ^ 1920 := by decide
  by_cases h0 : n.natAbs = 0
  · rw [h0]
    decide
  · exact (Nat.log2_lt h0).mpr (by omega)
theorem int_len {n : Int} (h : n.natAbs < 10 ^ 60) : (S (intL n)).length ≤ 61 := by
  rw [M.S_len]
  unfold intL
  have := len60 h
  split
  · rw [List.length_cons]
    omega
  · omega
def sp_show (K : PySem.W.Frag) : Sp := fun vs H Q _ => ∃ (p : Addr) (n : Int) (d : Nat), vs = [.ref p] ∧ SqT K H p [.int n, .int d] ∧ n.natAbs < 10 ^ 60 ∧ d < 10 ^ 60 ∧ Q (.str (S (fracL n d))) H
theorem ok_show_fraction (T : Txt K mg) : Z.C0 P w K mg base 1 "show_fraction" (sp_show K) := by
  refine T.d_show_fraction.c0 sc_show_fraction (fun vs H Q E h => ?_) (Z.bd0 fun _ _ _ _ _ _ us hl => match us, hl with | [_], _ => rfl) (fun f cdv A outer s H vs Q E hr h => ⟨_, (pss_cons (ps_if (pt_cmpR (k_eqP K hr.units) (pe_ix (k_ix K) (pv 0) pe_int (fun _ _ => rfl)) pe_int (nomark _))
  (pss_one (ps_ret (pe_callTy call_strP rfl T.b_str (by decide +kernel) (pa_cons (pe_ix (k_ix K) (pv 0) pe_int (fun _ _ => rfl)) pa_nil)))) pss_nil)
  (pss_one (ps_ret (pe_joined (PJ.cons (pe_fmt (pe_ix (k_ix K) (pv 0) pe_int (fun _ _ => rfl))) (PJ.cons pe_str (PJ.cons (pe_fmt (pe_ix (k_ix K) (pv 0) pe_int (fun _ _ => rfl))) PJ.nil))))))), ?_⟩)
  · obtain ⟨p, n, d, rfl, _⟩ := h
    rfl
  · obtain ⟨p, n, d, rfl, hp, hn, hd, q⟩ := h
    rw [st_show_fraction]
    walk_at "st"
    have l1 : n.natAbs.log2 < 1920 := log_of hn
    have l2 : (d : Int).natAbs.log2 < 1920 := log_of (by rw [Int.natAbs_natCast]; exact hd)
    have m1 := int_len hn
    have m2 := int_len (n := (d : Int)) (by rw [Int.natAbs_natCast]; exact hd)
    have m3 : (Str.ofString "/").length = 1 := by decide +kernel
    rw [← int_S'] at m1 m2
    walk_at "rd"
    refine r_ite (fun h1 => ?_) (fun h1 => ?_)
    · have e : d = 1 := by omega
      subst e
      walk_at "rd"
      rw [int_S']
      exact q
    · walk_at "rd"
      have e : Str.empty ++ Str.ofString (toString n) ++ Str.ofString "/" ++ Str.ofString (toString (d : Int)) = S (fracL n d) := by
        rw [int_S', int_S', show Str.empty = S [] from rfl, show Str.ofString "/" = S [47] by decide +kernel, S_app, S_app, S_app]
        unfold fracL
        rw [if_neg (by omega)]
        have : intL (d : Int) = numL d := by
          unfold intL
          rw [if_neg (by omega), Int.natAbs_natCast]
        rw [this]
        simp
      rw [e]
      exact q
/-! ### whole_in -/
def frV (p : Nat × Nat) : List V := [.int (p.1 : Nat), .int (p.2 : Nat)]
theorem sg_tup {H : Hp} {v : V} {s : Sg} (h : Dq H v (sgD s)) : ∃ T v2 v3, v = .ref T ∧ H T = some (.tup [.str (S [s.c]), v2, v3]) ∧ Dq H v2 (fracD s.p) ∧ Dq H v3 (lastD s.l) := by
  cases h with
  | tup h1 h2 _ =>
    obtain ⟨u1, _, rfl, g1, h2⟩ := DqAll.cons_inv h2
    obtain ⟨u2, _, rfl, g2, h2⟩ := DqAll.cons_inv h2
    obtain ⟨u3, _, rfl, g3, h2⟩ := DqAll.cons_inv h2
    obtain rfl := DqAll.nil_inv h2
    rw [g1.strV] at h1
    exact ⟨_, _, _, rfl, h1, g2, g3⟩
theorem dq_fr {H : Hp} {a : Addr} {p : Nat × Nat} (h : H a = some (.tup (frV p))) : Dq H (.ref a) (fracD p) := .tup h (.cons (.int _) (.cons (.int _) .nil)) (by simp [frV])
theorem fr_dq {H : Hp} {v : V} {p : Nat × Nat} (h : Dq H v (fracD p)) : ∃ a, v = .ref a ∧ H a = some (.tup (frV p)) := dq_ints2 h
theorem sgs_map_take {sg : List Sg} {i : Nat} (f : Sg → Sg) (h : i < sg.length) : (sg.take (i + 1)).map (fun s => sgD (f s)) = (sg.take i).map (fun s => sgD (f s)) ++ [sgD (f sg[i])] := by
  rw [← List.take_append_getElem h, List.map_append]
  rfl
/-- a tongue told anew: its lists are new -/
def newTg (K : PySem.W.Frag) (t : Tg) (H : Hp) (Q : VK) : Prop := ∀ r rl fl pl rows H', Same H H' → H rl = none → H fl = none → H pl = none → rl ≠ fl → rl ≠ pl → fl ≠ pl → TgAt H' (.ref r) t r rl fl pl rows → Q (.ref r) H'
/-! ### rows -/
def fracS (p : Nat × Nat) : Str := S (fracL (p.1 : Nat) p.2)
theorem fracS_len {p : Nat × Nat} (h : FrOk p) : (fracS p).length ≤ 200 := by
  have h1 := int_len (n := ((p.1 : Nat) : Int)) (by rw [Int.natAbs_natCast]; have := h.t2; omega)
  have h2 := len60 (n := p.2) (by have := h.b2; omega)
  unfold fracS
  rw [M.S_len] at h1 ⊢
  unfold fracL
  split
  · omega
  · rw [List.length_append, List.length_cons]
    omega
def lastS : Option (Nat × Nat) → Str
  | none => Str.ofString "-"
  | some p => fracS p
def signS (s : Sg) : Str := Str.ofString "sign " ++ S [s.c] ++ Str.ofString " " ++ fracS s.p ++ Str.ofString " " ++ lastS s.l
theorem lastS_len {s : Sg} (h : SgOk s) : (lastS s.l).length ≤ 200 := by
  cases e : s.l with
  | none => show (Str.ofString "-").length ≤ 200; decide +kernel
  | some p => exact fracS_len (h.l p e)
theorem signS_len {s : Sg} (h : SgOk s) : (signS s).length ≤ 500 := by
  have h1 := fracS_len h.p
  have h2 := lastS_len h
  unfold signS
  simp only [Z.len_app]
  have a1 : (Str.ofString "sign ").length = 5 := by decide +kernel
  have a2 : (Str.ofString " ").length = 1 := by decide +kernel
  have a3 : (S [s.c]).length = 1 := rfl
  omega
theorem fr_sq {H : Hp} {K : PySem.W.Frag} {v : V} {p : Nat × Nat} (h : Dq H v (fracD p)) : ∃ a, v = .ref a ∧ SqT K H a [.int (p.1 : Nat), .int (p.2 : Nat)] := by
  obtain ⟨a, rfl, ha⟩ := dq_ints2 h
  exact ⟨a, rfl, sqT ha⟩
def sp_sign_row (K : PySem.W.Frag) : Sp := fun vs H Q _ => ∃ (T : Addr) (s : Sg) (v2 v3 : V), vs = [.ref T] ∧ H T = some (.tup [.str (S [s.c]), v2, v3]) ∧ Dq H v2 (fracD s.p) ∧ Dq H v3 (lastD s.l) ∧ SgOk s ∧ Q (.str (signS s)) H
theorem ok_sign_row (T : Txt K mg) : Z.C0 P w K mg base 2 "sign_row" (sp_sign_row K) := by
  refine T.d_sign_row.c0 sc_sign_row (fun vs H Q E h => ?_) (Z.bd0 fun _ _ _ _ _ _ us hl => match us, hl with | [_], _ => rfl) (fun f cdv A outer s H vs Q E hr h => ⟨_, (pss_cons (ps_asg (pv 0) (k_tup (n := 3) K rfl (pgs_cons (pg_name (i := 1) sc_sign_row.nd rfl (Or.inl rfl)) (pgs_cons (pg_name (i := 2) sc_sign_row.nd rfl (Or.inl rfl)) (pgs_cons (pg_name (i := 3) sc_sign_row.nd rfl (Or.inl rfl)) pgs_nil)))))
  (pss_cons (ps_set (i := 4) sc_sign_row.nd rfl (Or.inl rfl) pe_str)
  (Evl.pss_cut (ps_if (pt_cmpR op_isNotP (pv 3) pe_non (nomark _))
  (pss_one (ps_set (i := 4) sc_sign_row.nd rfl (Or.inl rfl) (pe_c0 (ok_show_fraction T) hr (by decide) rfl (pa_cons (pv 3) pa_nil)))) pss_nil)
  (pss_one (ps_ret (pe_joined (PJ.cons pe_str (PJ.cons (pe_fmt (pv 1)) (PJ.cons pe_str (PJ.cons (pe_fmt (pe_c0 (ok_show_fraction T) hr (by decide) rfl (pa_cons (pv 2) pa_nil))) (PJ.cons pe_str (PJ.cons (pe_fmt (pv 4)) PJ.nil)))))))))))), ?_⟩)
  · obtain ⟨T, s, v2, v3, rfl, _⟩ := h
    rfl
  · obtain ⟨TT, s, v2, v3, rfl, hT, d2, d3, hs, q⟩ := h
    rw [st_sign_row]
    walk_at "st"
    have h1 := fracS_len hs.p
    have h2 := lastS_len hs
    have a1 : (Str.ofString "sign ").length = 5 := by decide +kernel
    have a2 : (Str.ofString " ").length = 1 := by decide +kernel
    have a3 : (S [s.c]).length = 1 := rfl
    walk_at "rd"
    refine r_cut (fun σ' H' => H = H' ∧ σ' = [some (.ref TT), some (.str (S [s.c])), some v2, some v3, some (.str (lastS s.l))]) ?_ ?_
    · walk_at "rd"
      refine ⟨rfl, ?_⟩
      rw [none_dq d3]
      cases e : s.l with
      | none =>
        rw [show isNone (lastD none) = true from rfl]
        walk_at "rd"
        exact ⟨rfl, rfl⟩
      | some p =>
        rw [e] at d3
        obtain ⟨la, rfl, hla⟩ := fr_sq (K := K) d3
        have hp := hs.l p e
        rw [show isNone (lastD (some p)) = false from rfl]
        walk_at "rd"
        refine ⟨la, (p.1 : Nat), p.2, rfl, hla, by rw [Int.natAbs_natCast]; have := hp.t2; omega, by have := hp.b2; omega, ?_⟩
        walk_at "rd"
        exact ⟨rfl, rfl⟩
    rintro σ' _ ⟨rfl, rfl⟩
    obtain ⟨pa, rfl, hpa⟩ := fr_sq (K := K) d2
    walk_at "rd"
    refine ⟨pa, (s.p.1 : Nat), s.p.2, rfl, hpa, by rw [Int.natAbs_natCast]; have := hs.p.t2; omega, by have := hs.p.b2; omega, ?_⟩
    dsimp only
    rw [show S (fracL ((s.p.1 : Nat) : Int) s.p.2) = fracS s.p from rfl]
    walk_at "rd"
    have e : Str.empty ++ Str.ofString "sign " ++ S [s.c] ++ Str.ofString " " ++ fracS s.p ++ Str.ofString " " ++ lastS s.l = signS s := by
      unfold signS
      rw [show Str.empty ++ Str.ofString "sign " = Str.ofString "sign " from ext_tl (by rw [tl_append]; rfl)]
    rw [e]
    exact q
def longS (n : Nat) : Str := Str.ofString "longest " ++ Str.ofString (toString ((n : Nat) : Int))
def thingS (w : Str × Nat) : Str := Str.ofString "thing " ++ w.1 ++ Str.ofString " " ++ Str.ofString (toString ((w.2 : Nat) : Int))
def bookS : Option (List Str) → List Str
  | none => []
  | some bs => bs.map fun z => Str.ofString "word " ++ z
def rowsS (t : Tg) (ws : List (Str × Nat)) (bo : Option (List Str)) : List Str := t.sg.map signS ++ (t.fi.map fun z => Str.ofString "first " ++ z) ++ (t.pa.map fun z => Str.ofString "pair " ++ z) ++ ([longS t.lo] ++ ws.map thingS) ++ bookS bo
structure BoAt (H : Hp) (v : V) (bo : Option (List Str)) : Prop where
  at_ : (bo = none ∧ v = .non) ∨ ∃ o bs, bo = some bs ∧ v = .ref o ∧ H o = some (.lst (bs.map V.str))
  k : ∀ bs, bo = some bs → bs.length ≤ 20 ∧ ∀ z ∈ bs, z.length ≤ 100
theorem BoAt.up {H H' : Hp} {v : V} {bo : Option (List Str)} (h : BoAt H v bo) (e : Same H H') : BoAt H' v bo := ⟨h.at_.elim .inl fun ⟨o, bs, h1, h2, h3⟩ => .inr ⟨o, bs, h1, h2, e _ _ h3⟩, h.k⟩
end
end My

namespace My
open PySem PySem.Spec PyProof.Rows L2 Z M SX TL
section
variable {P : Program} {w : World} {K : PySem.W.Frag} {mg : Str → Option Value} {base : Heap}
/-! ### pools -/
def PoolAt (H : Hp) (p : Addr) : Prop := ∃ a b : Int, H p = some (.lst [.int a, .int b]) ∧ 0 ≤ a ∧ 0 ≤ b ∧ b < 2147483647
def sp_pool (K : PySem.W.Frag) : Sp := fun vs H Q _ => ∃ (a : Addr) (ns : List Int) (k : Nat), vs = [.ref a, .int k] ∧ SqL K H a (ns.map V.int) ∧ k < 1000 ∧ ∀ p H', H p = none → Same H H' → PoolAt H' p → Q (.ref p) H'
theorem ok_law_pool (T : Txt K mg) : Z.C0 P w K mg base 1 "_law_pool" (sp_pool K) := by
  refine T.d_law_pool.c0 sc_law_pool (fun vs H Q E h => ?_) (Z.bd0 fun _ _ _ _ _ _ us hl => match us, hl with | [_, _], _ => rfl) (fun f cdv A outer s H vs Q E hr h => ⟨_, (pss_cons (ps_set (i := 2) sc_law_pool.nd rfl (Or.inl rfl) pe_int)
  (Evl.pss_cut (ps_if (pt_cmpR op_ltI (pv 1) (pe_callB (k_len K) rfl T.b_len (by decide +kernel) (pa_cons (pv 0) pa_nil)) (nomark _))
  (pss_one (ps_set (i := 2) sc_law_pool.nd rfl (Or.inl rfl) (pe_ix (k_ix K) (pv 0) (pv 1) (fun _ _ => rfl)))) pss_nil)
  (pss_cons (ps_set (i := 3) sc_law_pool.nd rfl (Or.inl rfl) (pe_op op_modP (pe_op op_mulP (pe_op (k_addP K) (pe_op (k_addP K) (pe_op op_modP (pv 2) pe_int) (pe_op op_mulP (pe_op op_mulP pe_int (pv 1)) (pv 1))) pe_int) pe_int) pe_int))
  (Evl.pss_cut (ps_if (pt_cmpR op_ltI (pv 2) (pe_op op_powI pe_int pe_int) (nomark _))
  (pss_one (ps_set (i := 2) sc_law_pool.nd rfl (Or.inl rfl) pe_int)) pss_nil)
  (pss_one (ps_ret (pe_lst (pa_cons (pv 2) (pa_cons (pv 3) pa_nil))))))))), ?_⟩)
  · obtain ⟨a, ns, k, rfl, _⟩ := h
    rfl
  · obtain ⟨a, ns, k, rfl, ha, hk, q⟩ := h
    rw [st_law_pool]
    walk_at "st"
    walk_at "rd"
    refine r_cut (fun σ' H' => ∃ c : Int, H = H' ∧ σ' = [some (.ref a), some (.int k), some (.int c), none]) ?_ ?_
    · walk_at "rd"
      refine r_ite (fun h1 => ?_) (fun h1 => ?_)
      · have hk2 : k < ns.length := by simp only [List.length_map] at h1; omega
        have hx : atI (ns.map V.int) (k : Int) = some (.int ns[k]) := atI_nat (by rw [List.getElem?_map, List.getElem?_eq_getElem hk2]; rfl)
        walk_at "rd"
        exact ⟨_, rfl, rfl⟩
      · walk_at "rd"
        exact ⟨_, rfl, rfl⟩
    rintro σ' _ ⟨c, rfl, rfl⟩
    walk_at "rd"
    refine r_cut (fun σ' H' => ∃ c d : Int, 0 ≤ c ∧ 0 ≤ d ∧ d < 2147483647 ∧ H = H' ∧ σ' = [some (.ref a), some (.int k), some (.int c), some (.int d)]) ?_ ?_
    · walk_at "rd"
      refine r_ite (fun h1 => ?_) (fun h1 => ?_)
      · walk_at "rd"
        exact ⟨_, _, by decide, Int.emod_nonneg _ (by decide), Int.emod_lt_of_pos _ (by decide), rfl, rfl⟩
      · walk_at "rd"
        exact ⟨_, _, by omega, Int.emod_nonneg _ (by decide), Int.emod_lt_of_pos _ (by decide), rfl, rfl⟩
    rintro σ' _ ⟨c, d, hc, hd, hd2, rfl, rfl⟩
    walk_at "rd"
    intro p H' hp e1 e2
    exact q p H' hp e1 ⟨c, d, e2, hc, hd, hd2⟩
def sp_take : Sp := fun vs H Q _ => ∃ (p : Addr) (m : Nat), vs = [.ref p, .int m] ∧ PoolAt H p ∧ 1 ≤ m ∧ m ≤ 1000000001 ∧ ∀ (x : Nat) H', x < m → Z.But p H H' → PoolAt H' p → Q (.int x) H'
theorem ok_law_take (T : Txt K mg) : Z.C0 P w K mg base 1 "_law_take" (sp_take) := by
  refine T.d_law_take.c0 sc_law_take (fun vs H Q E h => ?_) (Z.bd0 fun _ _ _ _ _ _ us hl => match us, hl with | [_, _], _ => rfl) (fun f cdv A outer s H vs Q E hr h => ⟨_, (pss_cons (ps_if (pt_cmpR op_gtI (pe_ix (k_ix K) (pv 0) pe_int (fun _ _ => rfl)) pe_int (nomark _))
  (pss_cons (ps_set (i := 2) sc_law_take.nd rfl (Or.inl rfl) (pe_op op_modP (pe_ix (k_ix K) (pv 0) pe_int (fun _ _ => rfl)) (pv 1)))
  (pss_cons (ps_asg (pe_op op_div (pe_ix (k_ix K) (pv 0) pe_int (fun _ _ => rfl)) (pv 1)) (pg_sub (pv 0) pe_int set_list))
  (pss_one (ps_ret (pv 2))))) pss_nil)
  (pss_cons (ps_asg (pe_op op_modP (pe_op (k_addP K) (pe_op op_mulP (pe_ix (k_ix K) (pv 0) pe_int (fun _ _ => rfl)) pe_int) pe_int) pe_int) (pg_sub (pv 0) pe_int set_list))
  (pss_one (ps_ret (pe_op op_modP (pe_op op_div (pe_op op_modP (pe_op op_mulP (pe_ix (k_ix K) (pv 0) pe_int (fun _ _ => rfl)) (pe_ix (k_ix K) (pv 0) pe_int (fun _ _ => rfl))) pe_int) pe_int) (pv 1)))))), ?_⟩)
  · obtain ⟨p, m, rfl, _⟩ := h
    rfl
  · obtain ⟨p, m, rfl, ⟨a, b, hp, ha, hb, hb2⟩, hm, hm2, q⟩ := h
    rw [st_law_take]
    walk_at "st"
    have fin : ∀ (z : Int) H', 0 ≤ z → z < m → Z.But p H H' → PoolAt H' p → Q (.int z) H' := fun z H' h0 h1 b1 p1 => by
      obtain ⟨n, rfl⟩ : ∃ n : Nat, z = n := ⟨z.toNat, by omega⟩
      exact q n H' (by omega) b1 p1
    walk_at "rd"
    refine r_ite (fun h1 => ?_) (fun h1 => ?_)
    · walk_at "rd"
      intro H2 b2 e2
      replace e2 : H2 p = some (.lst [.int (a / m), .int b]) := e2
      walk_at "rd"
      exact fin _ _ (Int.emod_nonneg _ (by omega)) (Int.emod_lt_of_pos _ (by omega)) b2 ⟨_, _, e2, Int.ediv_nonneg ha (by omega), hb, hb2⟩
    · walk_at "rd"
      intro H2 b2 e2
      replace e2 : H2 p = some (.lst [.int a, .int ((b * 48271 + 11) % 2147483647)]) := e2
      have g0 := Int.emod_nonneg (b * 48271 + 11) (show (2147483647 : Int) ≠ 0 by decide)
      have g1 := Int.emod_lt_of_pos (b * 48271 + 11) (show (0 : Int) < 2147483647 by decide)
      revert e2 g0 g1
      generalize (b * 48271 + 11) % 2147483647 = c
      intro e2 g0 g1
      walk_at "rd"
      exact fin _ _ (Int.emod_nonneg _ (by omega)) (Int.emod_lt_of_pos _ (by omega)) b2 ⟨_, _, e2, ha, g0, g1⟩
def lowF (t b : Nat) : Nat × Nat := (t / Nat.gcd t b, b / Nat.gcd t b)
theorem lowF_ok {t b : Nat} (ht : 1 ≤ t) (hb : 1 ≤ b) (ht2 : t < 10 ^ 9) (hb2 : b < 10 ^ 9) : FrOk (lowF t b) := by
  have g0 : 0 < Nat.gcd t b := Nat.gcd_pos_of_pos_right _ (by omega)
  exact ⟨Nat.div_pos (Nat.gcd_le_left _ (by omega)) g0, Nat.div_pos (Nat.gcd_le_right _ (by omega)) g0, lowest_gcd (t := t) (by omega), Nat.lt_of_le_of_lt (Nat.div_le_self _ _) ht2, Nat.lt_of_le_of_lt (Nat.div_le_self _ _) hb2⟩
def sp_llow : Sp := fun vs H Q _ => ∃ t b : Nat, vs = [.int t, .int b] ∧ 1 ≤ t ∧ 1 ≤ b ∧ b < 10 ^ 60 ∧ ∀ l H', H l = none → Same H H' → H' l = some (.tup (frV (lowF t b))) → Q (.ref l) H'
theorem ok_law_low (T : Txt K mg) : Z.C0 P w K mg base 1 "_law_low" (sp_llow) := by
  refine T.d_law_low.c0 sc_law_low (fun vs H Q E h => ?_) (Z.bd0 fun _ _ _ _ _ _ us hl => match us, hl with | [_, _], _ => rfl) (fun f cdv A outer s H vs Q E hr h => ⟨_, (pss_cons (ps_par (i := 2) (j := 3) rfl sc_law_low.nd rfl rfl (by decide) rfl rfl (pa_cons (pv 0) (pa_cons (pv 1) pa_nil)) rfl)
  (pss_cons (ps_while PassesOwn.never (pt_cmpR (k_neP K hr.units) (pv 3) pe_int (nomark _))
  (pss_one (ps_par (i := 2) (j := 3) rfl sc_law_low.nd rfl rfl (by decide) rfl rfl (pa_cons (pv 3) (pa_cons (pe_op op_modP (pv 2) (pv 3)) pa_nil)) rfl)))
  (pss_one (ps_ret (pe_tup (pa_cons (pe_op op_div (pv 0) (pv 2)) (pa_cons (pe_op op_div (pv 1) (pv 2)) pa_nil))))))), ?_⟩)
  · obtain ⟨t, b, rfl, _⟩ := h
    rfl
  · obtain ⟨t, b, rfl, ht, hb, hb2, q⟩ := h
    rw [st_law_low]
    walk_at "st"
    walk_at "rd"
    have g0 : 0 < Nat.gcd t b := Nat.gcd_pos_of_pos_right _ (by omega)
    have g1 : Nat.gcd t b ≤ b := Nat.gcd_le_right _ (by omega)
    refine r_while (fun m σ H' => H' = H ∧ ∃ x y : Nat, σ = [some (.int t), some (.int b), some (.int x), some (.int y)] ∧ m = y ∧ Nat.gcd x y = Nat.gcd t b) b (by walk_at "mn") ⟨rfl, t, b, rfl, rfl, rfl⟩ ?_
    rintro m σ _ ⟨rfl, x, y, rfl, rfl, e⟩
    walk_at "rd"
    refine r_nite (fun h1 => ?_) (fun h1 => ?_)
    · walk_at "rd"
      exact ⟨x % m, Nat.mod_lt _ (by omega), rfl, m, x % m, rfl, rfl, (gcd_step (by omega)).trans e⟩
    · walk_at "rd"
      have : m = 0 := by omega
      subst this
      rw [Nat.gcd_zero_right] at e
      subst e
      refine r_div ?_ (div_ok g0 g1 hb2)
      walk_at "rd"
      refine r_div ?_ (div_ok g0 g1 hb2)
      walk_at "rd"
      intro l H' hl e f
      exact q l H' hl e f
/-- behind pool functions: all but the pool stays, the pool is one -/
structure Po (p : Addr) (H H' : Hp) : Prop where
  s : Same (L2.del H p) (L2.del H' p)
  p : PoolAt H' p
theorem Po.but {p : Addr} {H H' : Hp} (b : Z.But p H H') (h : PoolAt H' p) : Po p H H' := ⟨delB b, h⟩
theorem Po.tr {p : Addr} {H H1 H2 : Hp} (a : Po p H H1) (b : Po p H1 H2) : Po p H H2 := ⟨a.s.trans b.s, b.p⟩
theorem Po.same {p : Addr} {H H1 H2 : Hp} (a : Po p H H1) (b : Same H1 H2) : Po p H H2 := by
  obtain ⟨x, y, h, r⟩ := a.p
  exact ⟨a.s.trans (delS b), x, y, b _ _ h, r⟩
theorem Po.get {p : Addr} {H H1 : Hp} (a : Po p H H1) {c : Addr} {o : HO} (h : L2.del H p c = some o) : H1 c = some o := del_sub _ _ (a.s _ _ h)
theorem pool_ne {p c : Addr} {H : Hp} (h : PoolAt H p) (n : H c = none) : c ≠ p := by
  obtain ⟨x, y, h, _⟩ := h
  exact (ne1 n h).symm
def sp_price (K : PySem.W.Frag) : Sp := fun vs H Q _ => ∃ p, vs = [.ref p] ∧ PoolAt H p ∧ ∀ r f H', FrOk f → Po p H H' → L2.del H' p r = some (.tup (frV f)) → Q (.ref r) H'
theorem ok_law_price (T : Txt K mg) : Z.C0 P w K mg base 2 "_law_price" (sp_price K) := by
  refine T.d_law_price.c0 sc_law_price (fun vs H Q E h => ?_) (Z.bd0 fun _ _ _ _ _ _ us hl => match us, hl with | [_], _ => rfl) (fun f cdv A outer s H vs Q E hr h => ⟨_, (pss_cons (ps_set (i := 1) sc_law_price.nd rfl (Or.inl rfl) (pe_c0 (ok_law_take T) hr (by decide) rfl (pa_cons (pv 0) (pa_cons pe_int pa_nil))))
  (pss_cons (ps_set (i := 2) sc_law_price.nd rfl (Or.inl rfl) (pe_op (k_addP K) pe_int (pe_c0 (ok_law_take T) hr (by decide) rfl (pa_cons (pv 0) (pa_cons (pe_ix (k_ix K) (pe_lst (pa_cons pe_int (pa_cons pe_int (pa_cons (pe_op op_powI pe_int pe_int) pa_nil)))) (pv 1) (fun _ _ => rfl)) pa_nil)))))
  (Evl.pss_cut (ps_if (pt_cmpR (k_eqP K hr.units) (pv 1) pe_int (nomark _))
  (pss_one (ps_set (i := 2) sc_law_price.nd rfl (Or.inl rfl) (pe_op op_subI (pe_op op_powI pe_int pe_int) (pv 2)))) pss_nil)
  (pss_cons (ps_set (i := 1) sc_law_price.nd rfl (Or.inl rfl) (pe_c0 (ok_law_take T) hr (by decide) rfl (pa_cons (pv 0) (pa_cons pe_int pa_nil))))
  (pss_cons (ps_set (i := 3) sc_law_price.nd rfl (Or.inl rfl) (pe_op (k_addP K) pe_int (pe_c0 (ok_law_take T) hr (by decide) rfl (pa_cons (pv 0) (pa_cons (pe_ix (k_ix K) (pe_lst (pa_cons pe_int (pa_cons pe_int (pa_cons pe_int (pa_cons (pe_op op_powI pe_int pe_int) pa_nil))))) (pv 1) (fun _ _ => rfl)) pa_nil)))))
  (Evl.pss_cut (ps_if (pt_cmpR (k_eqP K hr.units) (pv 1) pe_int (nomark _))
  (pss_one (ps_set (i := 3) sc_law_price.nd rfl (Or.inl rfl) (pe_op op_subI (pe_op op_powI pe_int pe_int) (pv 3)))) pss_nil)
  (pss_one (ps_ret (pe_c0 (ok_law_low T) hr (by decide) rfl (pa_cons (pv 2) (pa_cons (pv 3) pa_nil))))))))))), ?_⟩)
  · obtain ⟨p, rfl, _⟩ := h
    rfl
  · obtain ⟨p, rfl, hp, q⟩ := h
    rw [st_law_price]
    walk_at "st"
    walk_at "rd"
    refine ⟨p, 3, rfl, hp, by decide, by decide, fun w H1 hw b1 p1 => ?_⟩
    walk_at "rd"
    intro l2 H2 n2 s2 f2
    walk_at "rd"
    obtain ⟨v, hv, hm⟩ := at_in (xs := [V.int 3, V.int 12, V.int 100000000]) (z := ((w : Nat) : Int)) (by omega) (by simp; omega)
    obtain ⟨m, rfl, hm1, hm2⟩ : ∃ m : Nat, v = .int m ∧ 1 ≤ m ∧ m ≤ 100000000 := by
      simp only [List.mem_cons, List.not_mem_nil, or_false] at hm
      rcases hm with rfl | rfl | rfl
      · exact ⟨3, rfl, by decide, by decide⟩
      · exact ⟨12, rfl, by decide, by decide⟩
      · exact ⟨100000000, rfl, by decide, by decide⟩
    have o2 : Po p H H2 := (Po.but b1 p1).same s2
    walk_at "rd"
    refine ⟨p, m, rfl, o2.p, hm1, by omega, fun x H3 hx b3 p3 => ?_⟩
    have o3 := o2.tr (Po.but b3 p3)
    clear b1 s2 f2 b3
    walk_at "rd"
    refine r_cut (fun σ' H' => H3 = H' ∧ ∃ tp : Nat, 1 ≤ tp ∧ tp < 1000000000 ∧ σ' = [some (.ref p), some (.int w), some (.int tp), none]) ?_ ?_
    · walk_at "rd"
      refine r_ite (fun h1 => ?_) (fun h1 => ?_)
      · walk_at "rd"
        exact ⟨rfl, 1000000000 - (1 + x), by omega, by omega, (by first | (congr 4; done) | (congr 4; congr 1; omega))⟩
      · walk_at "rd"
        exact ⟨rfl, 1 + x, by omega, by omega, (by first | (congr 4; done) | (congr 4; congr 1; omega))⟩
    rintro σ' _ ⟨rfl, tp, t1, t2, rfl⟩
    walk_at "rd"
    refine ⟨p, 4, rfl, o3.p, by decide, by decide, fun w2 H4 hw2 b4 p4 => ?_⟩
    have o4 := o3.tr (Po.but b4 p4)
    walk_at "rd"
    intro l5 H5 n5 s5 f5
    have o5 := o4.same s5
    obtain ⟨v, hv, hm⟩ := at_in (xs := [V.int 1, V.int 1, V.int 12, V.int 100000000]) (z := ((w2 : Nat) : Int)) (by omega) (by simp; omega)
    obtain ⟨m, rfl, hm1, hm2⟩ : ∃ m : Nat, v = .int m ∧ 1 ≤ m ∧ m ≤ 100000000 := by
      simp only [List.mem_cons, List.not_mem_nil, or_false] at hm
      rcases hm with rfl | rfl | rfl | rfl
      · exact ⟨1, rfl, by decide, by decide⟩
      · exact ⟨1, rfl, by decide, by decide⟩
      · exact ⟨12, rfl, by decide, by decide⟩
      · exact ⟨100000000, rfl, by decide, by decide⟩
    walk_at "rd"
    refine ⟨p, m, rfl, o5.p, hm1, by omega, fun x H6 hx b6 p6 => ?_⟩
    have o6 := o5.tr (Po.but b6 p6)
    clear b4 s5 f5 b6
    walk_at "rd"
    refine r_cut (fun σ' H' => H6 = H' ∧ ∃ bt : Nat, 1 ≤ bt ∧ bt < 1000000000 ∧ σ' = [some (.ref p), some (.int w2), some (.int tp), some (.int bt)]) ?_ ?_
    · walk_at "rd"
      refine r_ite (fun h1 => ?_) (fun h1 => ?_)
      · walk_at "rd"
        exact ⟨rfl, 1000000000 - (1 + x), by omega, by omega, (by first | (congr 5; done) | (congr 5; congr 1; omega))⟩
      · walk_at "rd"
        exact ⟨rfl, 1 + x, by omega, by omega, (by first | (congr 5; done) | (congr 5; congr 1; omega))⟩
    rintro σ' _ ⟨rfl, bt, u1, u2, rfl⟩
    walk_at "rd"
    refine ⟨tp, bt, rfl, t1, u1, by omega, fun l H7 n7 s7 f7 => ?_⟩
    exact q l _ H7 (lowF_ok t1 u1 (by omega) (by omega)) (o6.same s7) (delG f7 (pool_ne o6.p n7))
end
end My

namespace My
open PySem PySem.Spec PyProof.Rows L2 Z M SX TL
section
variable {P : Program} {w : World} {K : PySem.W.Frag} {mg : Str → Option Value} {base : Heap}
instance {x : Str} {n : Int} : Decidable (MulOk x n) := by
  unfold MulOk
  infer_instance
theorem abc_at : ∀ i : Fin 26, (Str.ofString "abcdefghijklmnopqrstuvwxyz").cps.toList[i.1]? = some (97 + i.1) := by decide +kernel
end
end My

namespace My
open PySem PySem.Spec PyProof.Rows L2 Z M SX TL
section
variable {P : Program} {w : World} {K : PySem.W.Frag} {mg : Str → Option Value} {base : Heap}
theorem fr_in {H : Hp} {p r : Addr} {f : Nat × Nat} {H' : Hp} (o : Po p H H') (h : L2.del H p r = some (.tup (frV f))) : L2.del H' p r = some (.tup (frV f)) := o.s _ _ h
theorem Po.refl {p : Addr} {H : Hp} (h : PoolAt H p) : Po p H H := ⟨Same.refl _, h⟩
theorem Po.butN {p l : Addr} {H H1 H2 : Hp} (a : Po p H H1) (b : Z.But l H1 H2) (hl : H l = none) (np : l ≠ p) : Po p H H2 := by
  obtain ⟨x, y, hp, r⟩ := a.p
  refine ⟨fun c o h => ?_, x, y, b _ _ np.symm hp, r⟩
  have hc : c ≠ p := fun e => by
    rw [e, del_same] at h
    cases h
  have h2 : H c = some o := del_sub _ _ h
  have h3 := a.s _ _ h
  rw [del_ne hc] at h3 ⊢
  exact b c o (ne_of_none h2 hl) h3
theorem delB2 {p l : Addr} {H H' : Hp} (b : Z.But l H H') : Same (L2.del (L2.del H p) l) (L2.del (L2.del H' p) l) := fun c o h => by
  have n1 : c ≠ l := fun e => by
    rw [e, del_same] at h
    cases h
  rw [del_ne n1] at h ⊢
  have n2 : c ≠ p := fun e => by
    rw [e, del_same] at h
    cases h
  rw [del_ne n2] at h ⊢
  exact b c o n1 h
theorem Po.at_ {p c : Addr} {H H1 : Hp} {o : HO} (a : Po p H H1) (h : H c = some o) (n : c ≠ p) : H1 c = some o := a.get (delG h n)
def LcIp (p : Addr) (H : Hp) (Dl : Addr) (R : Nat → List V → Hp → Prop) (i : Nat) (H' : Hp) : Prop := ∃ acc : List V, acc.length ≤ i ∧ Po p H H' ∧ H' Dl = some (.lst acc) ∧ R i acc H'
def LcPp (p : Addr) (H : Hp) (Dl : Addr) (R : Nat → List V → Hp → Prop) (i : Nat) (y : V) (H4 : Hp) : Prop := ∃ acc, H4 Dl = some (.lst acc) ∧ acc.length < sizeLine ∧ LcIp p H Dl R i (upd H4 Dl (.lst (acc ++ [y])))
/-- a comprehension whose turns change the pool -/
theorem lcWp {σ : L2.St} {H : Hp} {Q : VK} {g : TG} {tt : TT} {te : TE} {vs : List Nat} {J : It} {n : Nat} {G : Hp → Prop} {Y : Nat → Hp → V → Hp → Prop} {p : Addr} (hp : PoolAt H p) (w : Walk J n G Y) (R : Addr → Nat → List V → Hp → Prop) (hw : wipe σ vs = σ)
    (hG : ∀ H', Po p H H' → G H') (h0 : ∀ Dl H', H Dl = none → Po p H H' → R Dl 0 [] H')
    (hs : ∀ i x acc Dl H' H'', i < n → H Dl = none → Po p H H' → H' Dl = some (.lst acc) → acc.length ≤ i → R Dl i acc H' → Y i H' x H'' → g x σ H'' fun σ2 H2 => wipe σ2 vs = σ ∧ tt σ2 H2 fun b H3 =>
      if b = true then te σ2 H3 (LcPp p H Dl (R Dl) (i + 1)) else LcIp p H Dl (R Dl) (i + 1) H3)
    (hd : ∀ acc Dl H', H Dl = none → Po p H H' → H' Dl = some (.lst acc) → R Dl n acc H' → Q (.ref Dl) H') : LcQ σ g tt te vs Q J H := by
  intro Dl hD
  rw [hw]
  have e0 : Po p H (upd H Dl (.lst [])) := (Po.refl hp).same (Same.new hD)
  refine Eq.mp (by rw [hw]) (lc_it (σ := σ) (vs := vs) (g := g) (tt := tt) (te := te) (H1 := H) (D := Dl) (Qd := fun H' => Q (.ref Dl) H') w (LcIp p H Dl (R Dl)) ⟨[], Nat.le_refl _, e0, upd_same, h0 Dl _ hD e0⟩ (fun i H' _ ⟨_, _, e, _⟩ => hG H' e) (fun i x H' H'' hi ⟨acc, hl, e, ed, r⟩ y => ?_) fun H' ⟨acc, _, e, ed, r⟩ => hd acc Dl H' hD e ed r)
  rw [hw]
  exact hs i x acc Dl H' H'' hi hD e ed hl r y
theorem lcp_put {p Dl : Addr} {H : Hp} {R : Nat → List V → Hp → Prop} {i : Nat} {y : V} {acc : List V} {H4 : Hp} (hi : i < 16777216) (hD : H Dl = none) (np : Dl ≠ p) (e : Po p H H4) (h : H4 Dl = some (.lst acc)) (hl : acc.length ≤ i)
    (r : ∀ H5, Z.But Dl H4 H5 → Po p H H5 → R (i + 1) (acc ++ [y]) H5) : LcPp p H Dl R (i + 1) y H4 :=
  ⟨acc, h, szlt (by omega), acc ++ [y], by rw [List.length_append]; exact Nat.succ_le_succ hl, e.butN Z.But.upd hD np, upd_same, r _ Z.But.upd (e.butN Z.But.upd hD np)⟩
theorem lcp_skip {p Dl : Addr} {H : Hp} {R : Nat → List V → Hp → Prop} {i : Nat} {acc : List V} {H4 : Hp} (e : Po p H H4) (h : H4 Dl = some (.lst acc)) (hl : acc.length ≤ i) (r : R (i + 1) acc H4) : LcIp p H Dl R (i + 1) H4 := ⟨acc, by omega, e, h, r⟩
def csV (cs : List Nat) : List V := cs.map fun c => V.str (S [c])
def sp_tongue (K : PySem.W.Frag) : Sp := fun vs H Q _ => ∃ (p : Addr) (most longest : Nat), vs = [.ref p, .int most, .int longest] ∧ PoolAt H p ∧ 2 ≤ most ∧ most ≤ 6 ∧ 1 ≤ longest ∧ longest ≤ 8 ∧
  ∀ t T a1 a2 a3 xs H', TgOk t → Po p H H' → TgAt (L2.del H' p) (.ref T) t T a1 a2 a3 xs → Q (.ref T) H'
theorem ok_law_tongue (T : Txt K mg) : Z.C0 P w K mg base 3 "_law_tongue" (sp_tongue K) := by
  refine T.d_law_tongue.c0 sc_law_tongue (fun vs H Q E h => ?_) (Z.bd0 fun _ _ _ _ _ _ us hl => match us, hl with | [_, _, _], _ => rfl) (fun f cdv A outer s H vs Q E hr h => ⟨_, (pss_cons (ps_set (i := 3) sc_law_tongue.nd rfl (Or.inl rfl) (pe_op (k_addP K) pe_int (pe_c0 (ok_law_take T) hr (by decide) rfl (pa_cons (pv 0) (pa_cons (pe_op op_subI (pv 1) pe_int) pa_nil)))))
  (pss_cons (ps_set (i := 4) sc_law_tongue.nd rfl (Or.inr rfl) (pe_c0 (ok_law_take T) hr (by decide) rfl (pa_cons (pv 0) (pa_cons pe_int pa_nil))))
  (pss_cons (ps_set (i := 5) sc_law_tongue.nd rfl (Or.inr rfl) (pe_ix (k_ix K) (pe_lst (pa_cons pe_int (pa_cons pe_int (pa_cons pe_int (pa_cons pe_int pa_nil))))) (pe_c0 (ok_law_take T) hr (by decide) rfl (pa_cons (pv 0) (pa_cons pe_int pa_nil))) (fun _ _ => rfl)))
  (pss_cons (ps_setLc (i := 7) (own := [("_law_k", 6)]) rfl sc_law_tongue.nd rfl rfl (sw_true rfl rfl rfl (by decide +kernel)) (pi_range1 rfl T.b_range (pa_cons (pv 3) pa_nil)) (blkOk_by (N := ["_law_pool_here", "_law_most_signs", "_law_most_long", "_law_many", "_law_shift", "_law_step", "_law_k", "_law_letters", "_law_signs", "_law_letter", "_law_price_here", "_law_last", "_law_firsts", "_law_pairs", "_law_pair"]) (sc := defScope s_law_tongue) (by decide +kernel)) (fun _ _ _ _ _ => (pg_name (i := 6) sc_law_tongue.nd rfl (Or.inl rfl))) (fun _ _ _ _ _ => pts_nil) (fun _ _ _ _ _ => (pe_ix (k_ix K) pe_str (pe_op op_modP (pe_op (k_addP K) (pv 4) (pe_op op_mulP (pv 5) (pv 6))) pe_int) (fun _ _ => rfl))))
  (pss_cons (ps_set (i := 8) sc_law_tongue.nd rfl (Or.inl rfl) (pe_lst pa_nil))
  (pss_cons (ps_for PassesOwn.never rfl (k_iL K (pv 7)) (pg_name (i := 9) sc_law_tongue.nd rfl (Or.inl rfl))
  (pss_cons (ps_set (i := 10) sc_law_tongue.nd rfl (Or.inl rfl) (pe_c0 (ok_law_price T) hr (by decide) rfl (pa_cons (pv 0) pa_nil)))
  (pss_cons (ps_set (i := 11) sc_law_tongue.nd rfl (Or.inl rfl) (pe_c0 (ok_law_price T) hr (by decide) rfl (pa_cons (pv 0) pa_nil)))
  (pss_one (ps_expr (k_bm K PySem.F.plainAttrs_list PySem.F.slot_list_append PySem.F.type_list_append mt_append (pv 8) (pa_cons (pe_tup (pa_cons (pv 9) (pa_cons (pv 10) (pa_cons (pe_ix (k_ix K) (pe_lst (pa_cons pe_non (pa_cons (pv 10) (pa_cons (pv 11) (pa_cons (pv 11) (pa_cons (pv 11) (pa_cons (pv 11) pa_nil))))))) (pe_c0 (ok_law_take T) hr (by decide) rfl (pa_cons (pv 0) (pa_cons pe_int pa_nil))) (fun _ _ => rfl)) pa_nil)))) pa_nil)))))))
  (pss_cons (ps_setLc (i := 12) (own := [("_law_letter", 9)]) rfl sc_law_tongue.nd rfl rfl (sw_true rfl rfl rfl (by decide +kernel)) (k_iL K (pv 7)) (blkOk_by (N := ["_law_pool_here", "_law_most_signs", "_law_most_long", "_law_many", "_law_shift", "_law_step", "_law_k", "_law_letters", "_law_signs", "_law_letter", "_law_price_here", "_law_last", "_law_firsts", "_law_pairs", "_law_pair"]) (sc := defScope s_law_tongue) (by decide +kernel)) (fun _ _ _ _ _ => (pg_name (i := 9) sc_law_tongue.nd rfl (Or.inl rfl))) (fun _ _ _ _ _ => (pts_one (pt_cmpR (k_eqP K hr.units) (pe_c0 (ok_law_take T) hr (by decide) rfl (pa_cons (pv 0) (pa_cons pe_int pa_nil))) pe_int (nomark _)))) (fun _ _ _ _ _ => (pv 9)))
  (pss_cons (ps_set (i := 13) sc_law_tongue.nd rfl (Or.inl rfl) (pe_lst pa_nil))
  (pss_cons (ps_for PassesOwn.never rfl (pi_range1 rfl T.b_range (pa_cons (pe_c0 (ok_law_take T) hr (by decide) rfl (pa_cons (pv 0) (pa_cons pe_int pa_nil))) pa_nil)) (pg_name (i := 6) sc_law_tongue.nd rfl (Or.inl rfl))
  (pss_cons (ps_set (i := 14) sc_law_tongue.nd rfl (Or.inl rfl) (pe_op (k_addP K) (pe_ix (k_ix K) (pv 7) (pe_c0 (ok_law_take T) hr (by decide) rfl (pa_cons (pv 0) (pa_cons (pv 3) pa_nil))) (fun _ _ => rfl)) (pe_ix (k_ix K) (pv 7) (pe_c0 (ok_law_take T) hr (by decide) rfl (pa_cons (pv 0) (pa_cons (pv 3) pa_nil))) (fun _ _ => rfl))))
  (pss_one (ps_if (pt_cmpR (k_notInP K) (pv 14) (pv 13) (by rfl))
  (pss_one (ps_expr (k_bm K PySem.F.plainAttrs_list PySem.F.slot_list_append PySem.F.type_list_append mt_append (pv 13) (pa_cons (pv 14) pa_nil)))) pss_nil))))
  (pss_one (ps_ret (pe_tup (pa_cons (pv 8) (pa_cons (pe_stepS K (pv 12) (pe_op op_subI pe_int (pe_op op_mulP pe_int (pe_c0 (ok_law_take T) hr (by decide) rfl (pa_cons (pv 0) (pa_cons pe_int pa_nil)))))) (pa_cons (pv 13) (pa_cons (pe_op (k_addP K) pe_int (pe_c0 (ok_law_take T) hr (by decide) rfl (pa_cons (pv 0) (pa_cons (pv 2) pa_nil)))) pa_nil)))))))))))))))), ?_⟩)
  · obtain ⟨p, most, longest, rfl, _⟩ := h
    rfl
  · obtain ⟨p, most, longest, rfl, hp, hm1, hm2, hl1, hl2, q⟩ := h
    rw [st_law_tongue]
    walk_at "st"
    walk_at "rd"
    rw [show ((most : Nat) : Int) - 1 = ((most - 1 : Nat) : Int) by omega]
    refine ⟨p, most - 1, rfl, hp, by omega, by omega, fun x0 H1 hx0 b1 p1 => ?_⟩
    have o1 := Po.but b1 p1
    clear b1
    walk_at "rd"
    rw [show (2 : Int) + ((x0 : Nat) : Int) = ((2 + x0 : Nat) : Int) by rw [Int.natCast_add]; rfl]
    obtain ⟨m, hm⟩ : ∃ m, m = 2 + x0 := ⟨_, rfl⟩
    rw [← hm]
    have hm3 : 2 ≤ m := by omega
    have hm4 : m ≤ 6 := by omega
    refine ⟨p, 26, rfl, p1, by decide, by decide, fun sh H2 hsh b2 p2 => ?_⟩
    have o2 := o1.tr (Po.but b2 p2)
    clear b2 o1
    walk_at "rd"
    intro l3 H3 n3 s3 f3
    have o3 := o2.same s3
    walk_at "rd"
    refine ⟨p, 4, rfl, o3.p, by decide, by decide, fun w H4 hw b4 p4 => ?_⟩
    have o4 := o3.tr (Po.but b4 p4)
    have n3' : l3 ≠ p := pool_ne o2.p n3
    have f4 := b4 _ _ n3' f3
    clear b4 o3 o2 s3 f3
    obtain ⟨v, hv, hmem⟩ := at_in (xs := [V.int 1, V.int 3, V.int 7, V.int 25]) (z := ((w : Nat) : Int)) (by omega) (by simp; omega)
    obtain ⟨st, rfl, hst⟩ : ∃ st : Nat, v = .int st ∧ (st = 1 ∨ st = 3 ∨ st = 7 ∨ st = 25) := by
      simp only [List.mem_cons, List.not_mem_nil, or_false] at hmem
      rcases hmem with rfl | rfl | rfl | rfl
      · exact ⟨1, rfl, by omega⟩
      · exact ⟨3, rfl, by omega⟩
      · exact ⟨7, rfl, by omega⟩
      · exact ⟨25, rfl, by omega⟩
    walk_at "rd"
    refine lcW walk_r0 (fun i acc _ => acc = csV ((List.range i).map fun k => 97 + (sh + st * k) % 26)) rfl (fun _ _ => trivial) (fun _ _ => rfl) ?_ ?_
    · rintro i x acc Dl _ G1 hi hD g1 g2 hl2 rfl ⟨rfl, rfl⟩
      walk_at "rd"
      have hlt : (sh + st * i) % 26 < 26 := Nat.mod_lt _ (by decide)
      refine r_ixS (c := 97 + (sh + st * i) % 26) (by decide +kernel) ?_ ?_
      · have := abc_at ⟨(sh + st * i) % 26, hlt⟩
        have e : (((sh : Nat) : Int) + ((st : Nat) : Int) * ((i : Nat) : Int)) % (26 : Int) = (((sh + st * i) % 26 : Nat) : Int) := by
          rw [Int.natCast_emod, Int.natCast_add, Int.natCast_mul]
          rfl
        rw [e]
        exact atI_nat this
      refine lc_put (by omega) hD g1 g2 hl2 fun H5 _ _ => ?_
      unfold csV
      rw [List.range_succ, List.map_append, List.map_append]
      rfl
    rintro acc lc H5 hlc s5 f5 rfl
    rw [show ((m : Nat) : Int).toNat = m by omega] at f5
    have o5 := o4.same s5
    have hcn : ((List.range m).map fun k => 97 + (sh + st * k) % 26).Nodup := by
      refine List.Pairwise.map (R := fun a b => a < 6 ∧ b < 6 ∧ a ≠ b) _ (fun a b h e => ?_) ?_
      · obtain ⟨ha, hb, hn⟩ := h
        rcases hst with rfl | rfl | rfl | rfl <;> omega
      · refine List.Pairwise.imp_of_mem (R := (· ≠ ·)) (fun ha hb h => ⟨?_, ?_, h⟩) List.nodup_range
        · have := List.mem_range.mp ha
          omega
        · have := List.mem_range.mp hb
          omega
    have hcw : ∀ c ∈ ((List.range m).map fun k => 97 + (sh + st * k) % 26), low c = true := by
      intro c hc
      obtain ⟨k, _, rfl⟩ := List.mem_map.mp hc
      have : (sh + st * k) % 26 < 26 := Nat.mod_lt _ (by decide)
      generalize (sh + st * k) % 26 = y at this
      exact decide_eq_true (by omega)
    have hcl : ((List.range m).map fun k => 97 + (sh + st * k) % 26).length = m := by simp
    revert f5 hcn hcw hcl
    generalize ((List.range m).map fun k => 97 + (sh + st * k) % 26) = cs
    intro f5 hcn hcw hcl
    have nlc : lc ≠ p := pool_ne o4.p hlc
    have f5' : L2.del H5 p lc = some (.lst (csV cs)) := delG f5 nlc
    have hcv : (csV cs).length = m := by
      unfold csV
      rw [List.length_map, hcl]
    clear o4 s5 f4
    walk_at "rd"
    intro ls H6 n6 s6 f6
    have o6 := o5.same s6
    have nls : ls ≠ p := pool_ne o5.p n6
    have c6 : L2.del H6 p lc = some (.lst (csV cs)) := (delS s6) _ _ f5'
    have hls5 : H5 ls = none := n6
    clear c6
    have c6' : H6 lc = some (.lst (csV cs)) := s6 _ _ f5
    walk_at "rd"
    refine forW (walk_list (xs := csV cs)) (fun i σ G => ∃ (z9 z10 z11 : Option V) (sg : List Sg) (xs : List V), σ = [some (.ref p), some (.int most), some (.int longest), some (.int m), some (.int sh), some (.int st), none, some (.ref lc), some (.ref ls), z9, z10, z11, none, none, none] ∧ Po p H5 G ∧ G ls = some (.lst xs) ∧ DqAll (L2.del (L2.del G p) ls) xs (sg.map sgD) ∧ sg.map Sg.c = cs.take i ∧ (∀ s ∈ sg, SgOk s))
      ⟨none, none, none, [], [], rfl, (Po.refl o5.p).same s6, f6, .nil, rfl, fun s hs => absurd hs List.not_mem_nil⟩ (fun i σ G _ ⟨_, _, _, _, _, _, e, _⟩ => sqL (e.get f5')) ?_ ?_
    · rintro i x σ G0 G1 hi ⟨z9, z10, z11, sg, xs, rfl, g0, gl, dq, hsc, hso⟩ y
      obtain ⟨rfl, hx⟩ := y
      have hi2 : i < cs.length := by omega
      obtain rfl : V.str (S [cs[i]]) = x := by
        have hx : (csV cs)[i]? = some x := hx
        unfold csV at hx
        rw [List.getElem?_map, List.getElem?_eq_getElem hi2] at hx
        exact Option.some.inj hx
      have hxl := dq.length
      rw [List.length_map] at hxl
      have hsl := congrArg List.length hsc
      rw [List.length_map, List.length_take] at hsl
      walk_at "rd"
      refine ⟨p, rfl, g0.p, fun r1 fr1 A1 hf1 o1 h1 => ?_⟩
      walk_at "rd"
      refine ⟨p, rfl, o1.p, fun r2 fr2 A2 hf2 o2 h2 => ?_⟩
      have gl1 : A1 ls = some (.lst xs) := o1.at_ gl nls
      have gl2 : A2 ls = some (.lst xs) := o2.at_ gl1 nls
      walk_at "rd"
      intro l3 A3 m3 t3 q3
      walk_at "rd"
      have op3 := o2.same t3
      refine ⟨p, 6, rfl, op3.p, by decide, by decide, fun w A4 hw b4 p4 => ?_⟩
      have o4 : Po p A1 A4 := op3.tr (Po.but b4 p4)
      have ml3 : l3 ≠ p := pool_ne o2.p m3
      have q4 := b4 _ _ ml3 q3
      have gl4 : A4 ls = some (.lst xs) := o4.at_ gl1 nls
      have h1' : L2.del A4 p r1 = some (.tup (frV fr1)) := o4.s _ _ h1
      have h2' : L2.del A4 p r2 = some (.tup (frV fr2)) := (delS t3).trans (delB b4) _ _ h2
      have nr : ∀ {r f}, L2.del A4 p r = some (.tup (frV f)) → r ≠ ls := fun {r f} h e => by
        have h3 := del_sub _ _ h
        rw [e, gl4] at h3
        cases h3
      have frq : ∀ {r f}, L2.del A4 p r = some (.tup (frV f)) → Dq (L2.del (L2.del A4 p) ls) (.ref r) (fracD f) := fun h => dq_fr (delG h (nr h))
      obtain ⟨v, hv, hmem⟩ := at_in (xs := [V.non, V.ref r1, V.ref r2, V.ref r2, V.ref r2, V.ref r2]) (z := ((w : Nat) : Int)) (by omega) (by simp; omega)
      obtain ⟨ol, hol, hok⟩ : ∃ ol, Dq (L2.del (L2.del A4 p) ls) v (lastD ol) ∧ ∀ r, ol = some r → FrOk r := by
        simp only [List.mem_cons, List.not_mem_nil, or_false] at hmem
        rcases hmem with rfl | rfl | rfl | rfl | rfl | rfl
        · exact ⟨none, .non, fun r h => by cases h⟩
        · exact ⟨some fr1, frq h1', fun r h => by cases h; exact hf1⟩
        · exact ⟨some fr2, frq h2', fun r h => by cases h; exact hf2⟩
        · exact ⟨some fr2, frq h2', fun r h => by cases h; exact hf2⟩
        · exact ⟨some fr2, frq h2', fun r h => by cases h; exact hf2⟩
        · exact ⟨some fr2, frq h2', fun r h => by cases h; exact hf2⟩
      clear b4 t3 q3
      walk_at "rd"
      intro T5 A5 m5 t5 q5
      have mT : T5 ≠ p := pool_ne o4.p m5
      have nT : T5 ≠ ls := (ne1 m5 gl4).symm
      have gl5 := t5 _ _ gl4
      walk_at "rd"
      intro A6 b6 q6
      have oG : Po p H5 A5 := (g0.tr (o1.tr o4)).same t5
      refine ⟨_, _, _, sg ++ [⟨cs[i], fr1, ol⟩], xs ++ [.ref T5], rfl, oG.butN b6 hls5 nls, q6, ?_, ?_, ?_⟩
      · rw [List.map_append]
        have e45 : Same (L2.del (L2.del A4 p) ls) (L2.del (L2.del A6 p) ls) := (delS (delS t5)).trans (delB2 b6)
        refine DqAll.app (dq.up ((delS (o1.s.trans o4.s)).trans e45)) (.cons (.tup (delB2 b6 _ _ (delG (delG q5 mT) nT)) (.cons (.str _ (by rw [M.S_len, List.length_singleton]; decide)) (.cons ((frq h1').up e45) (.cons (hol.up e45) .nil))) (by simp)) .nil)
      · rw [List.map_append, hsc, ← List.take_append_getElem hi2]
        rfl
      · intro s hs
        rcases List.mem_append.mp hs with hs | hs
        · exact hso s hs
        · rw [List.mem_singleton.mp hs]
          exact ⟨hcw _ (List.getElem_mem hi2), hf1, hok⟩
    rintro σ G0 ⟨z9, z10, z11, sg, xs, rfl, g0, gl, dq, hsc, hso⟩
    rw [hcv, ← hcl, List.take_length] at hsc
    have gc := g0.get f5'
    have dqp : DqAll (L2.del G0 p) xs (sg.map sgD) := dq.up del_sub
    have gls : L2.del G0 p ls = some (.lst xs) := delG gl nls
    have gcp : L2.del G0 p lc = some (.lst (csV cs)) := delG gc nlc
    have oo := o5.tr g0
    walk_at "rd"
    refine lcWw (σ0 := [some (.ref p), some (.int most), some (.int longest), some (.int m), some (.int sh), some (.int st), none, some (.ref lc), some (.ref ls), none, z10, z11, none, none, none]) rfl rfl (lcWp oo.p (walk_list (xs := csV cs)) (fun Dl i acc G => ∃ fs : List Nat, acc = csV fs ∧ fs.Sublist (cs.take i)) rfl (fun G' e => sqL (e.get gcp)) (fun _ _ _ _ => ⟨[], rfl, List.nil_sublist _⟩) ?_ ?_)
    · rintro i x acc Dl G1 _ hi hD g1 g2 hl2 ⟨fs, rfl, hsub⟩ ⟨rfl, hx⟩
      have hi2 : i < cs.length := by omega
      obtain rfl : V.str (S [cs[i]]) = x := by
        have hx : (csV cs)[i]? = some x := hx
        unfold csV at hx
        rw [List.getElem?_map, List.getElem?_eq_getElem hi2] at hx
        exact Option.some.inj hx
      walk_at "rd"
      refine ⟨p, 5, rfl, g1.p, by decide, by decide, fun w G2 hw b2 p2 => ?_⟩
      have nD : Dl ≠ p := pool_ne oo.p hD
      have o2 := g1.tr (Po.but b2 p2)
      have gd := b2 _ _ nD g2
      have tk : cs.take (i + 1) = cs.take i ++ [cs[i]] := (List.take_append_getElem hi2).symm
      walk_at "rd"
      refine r_ite (fun hb1 => ?_) (fun hb1 => ?_)
      · walk_at "rd"
        refine lcp_put (by omega) hD nD o2 gd hl2 fun H5 _ _ => ⟨fs ++ [cs[i]], ?_, ?_⟩
        · unfold csV
          rw [List.map_append]
          rfl
        · rw [tk]
          exact List.Sublist.append hsub (List.Sublist.refl _)
      · exact lcp_skip o2 gd hl2 ⟨fs, rfl, by rw [tk]; exact hsub.trans (List.sublist_append_left _ _)⟩
    rintro acc lf G1 hlf g1 gf ⟨fs, rfl, hfs⟩
    rw [hcv, ← hcl, List.take_length] at hfs
    have nf : lf ≠ p := pool_ne oo.p hlf
    walk_at "rd"
    intro lp G2 hlp s2 f2
    have np : lp ≠ p := pool_ne g1.p hlp
    have o2 := (Po.refl g1.p).same s2
    have gc1 : L2.del G1 p lc = some (.lst (csV cs)) := g1.s _ _ gcp
    walk_at "rd"
    refine ⟨p, 16, rfl, o2.p, by decide, by decide, fun kk G3 hkk b3 p3 => ?_⟩
    have o3 := o2.tr (Po.but b3 p3)
    have f3 := b3 _ _ np f2
    have gc3 : L2.del G3 p lc = some (.lst (csV cs)) := o3.s _ _ gc1
    clear b3 s2
    walk_at "rd"
    refine forW walk_r0 (fun i σ G => ∃ (z6 z14 : Option V) (ps : List Str), σ = [some (.ref p), some (.int most), some (.int longest), some (.int m), some (.int sh), some (.int st), z6, some (.ref lc), some (.ref ls), z9, z10, z11, some (.ref lf), some (.ref lp), z14] ∧ Po p G1 G ∧ G lp = some (.lst (ps.map V.str)) ∧ (∀ z ∈ ps, ∃ a b, z = S [a, b] ∧ a ∈ cs ∧ b ∈ cs) ∧ ps.Nodup ∧ ps.length ≤ i) ⟨_, _, [], rfl, o3, f3, fun z hz => absurd hz List.not_mem_nil, List.nodup_nil, Nat.le_refl _⟩ (fun _ _ _ _ _ => trivial) ?_ ?_
    · rintro i x σ _ G4 hi ⟨z6, z14, ps, rfl, q4, l4, hps, hpn, hpl⟩ ⟨rfl, rfl⟩
      have csAt : ∀ (j : Nat) (hj : j < cs.length), (csV cs)[j]? = some (.str (S [cs[j]])) := fun j hj => by
        unfold csV
        rw [List.getElem?_map, List.getElem?_eq_getElem hj]
        rfl
      walk_at "rd"
      refine ⟨p, m, rfl, q4.p, by omega, by omega, fun u1 G5 hu1 b5 p5 => ?_⟩
      have o5 := q4.tr (Po.but b5 p5)
      have gc5 : G5 lc = some (.lst (csV cs)) := o5.get gc1
      have hu1' : u1 < cs.length := by omega
      have e1 : atI (csV cs) ((u1 : Nat) : Int) = some (.str (S [cs[u1]])) := atI_nat (csAt _ hu1')
      have l5 := b5 _ _ np l4
      clear b5
      walk_at "rd"
      refine ⟨p, m, rfl, o5.p, by omega, by omega, fun u2 G6 hu2 b6 p6 => ?_⟩
      have o6 := o5.tr (Po.but b6 p6)
      have gc6 : G6 lc = some (.lst (csV cs)) := o6.get gc1
      have hu2' : u2 < cs.length := by omega
      have e2 : atI (csV cs) ((u2 : Nat) : Int) = some (.str (S [cs[u2]])) := atI_nat (csAt _ hu2')
      have l6 := b6 _ _ np l5
      clear b6
      have lS : ∀ c, (S [c]).length = 1 := fun c => by rw [M.S_len]; rfl
      walk_at "rd"
      rw [S_app]
      walk_at "rd"
      refine r_notInL (xs := ps.map V.str) (sqL l6) ?_ rfl (flat_strs _)
      rw [inV_strs]
      have hl7 : (ps.map V.str).length < 16777216 := by
        rw [List.length_map]
        omega
      walk_at "rd"
      refine r_nite (fun hb1 => ?_) (fun hb1 => ?_)
      · walk_at "rd"
        intro G7 b7 l7
        refine ⟨some (.int i), some (.str (S ([cs[u1]] ++ [cs[u2]]))), ps ++ [S ([cs[u1]] ++ [cs[u2]])], rfl, o6.butN b7 hlp np, by rw [l7, List.map_append]; rfl, fun z hz => ?_, ?_, by rw [List.length_append]; exact Nat.succ_le_succ hpl⟩
        · rcases List.mem_append.mp hz with hz | hz
          · exact hps z hz
          · rw [List.mem_singleton.mp hz]
            exact ⟨_, _, rfl, List.getElem_mem _, List.getElem_mem _⟩
        · rw [List.nodup_append]
          refine ⟨hpn, by simp, fun a ha b hb e => hb1 ?_⟩
          rw [List.mem_singleton.mp hb] at e
          rw [← e]
          exact ha
      · walk_at "rd"
        exact ⟨some (.int i), some (.str (S ([cs[u1]] ++ [cs[u2]]))), ps, rfl, o6, l6, hps, hpn, by omega⟩
    rintro σ G4 ⟨z6, z14, ps, rfl, o4, l4, hps, hpn, hpl⟩
    have gf4 : G4 lf = some (.lst (csV fs)) := o4.get (delG gf nf)
    walk_at "rd"
    refine ⟨p, 2, rfl, o4.p, by decide, by decide, fun w G5 hw b5 p5 => ?_⟩
    have o5 := o4.tr (Po.but b5 p5)
    have gf5 := o5.get (delG gf nf)
    walk_at "rd"
    obtain ⟨fs', hs1, hs2, hs3, hw'⟩ : ∃ fs' : List Nat, (∀ c ∈ fs', c ∈ cs) ∧ fs'.Nodup ∧ fs'.length ≤ 6 ∧ ∀ Q' : VK, (∀ q1 G6, G5 q1 = none → Same G5 G6 → G6 q1 = some (.lst (csV fs')) → Q' (.ref q1) G6) → StepW K (.ref lf) (.int (1 - 2 * ((w : Nat) : Int))) G5 Q' := by
      have hl6 := hfs.length_le
      rcases (show w = 0 ∨ w = 1 by omega) with rfl | rfl
      · exact ⟨fs, fun c h => hfs.subset h, hcn.sublist hfs, by omega, fun Q' h => ⟨lf, csV fs, rfl, sqL gf5, .inl ⟨rfl, fun q1 hq => h q1 _ hq (Same.new hq) upd_same⟩⟩⟩
      · refine ⟨fs.reverse, fun c h => hfs.subset (List.mem_reverse.mp h), List.pairwise_reverse.mpr ((hcn.sublist hfs).imp fun h => h.symm), by rw [List.length_reverse]; omega, fun Q' h => ⟨lf, csV fs, rfl, sqL gf5, .inr ⟨rfl, fun q1 hq => h q1 _ hq (Same.new hq) ?_⟩⟩⟩
        unfold csV
        rw [List.map_reverse]
        exact upd_same
    refine hw' _ fun q1 G6 n6 s6 f6 => ?_
    have o6 := o5.same s6
    have nq1 : q1 ≠ p := pool_ne o5.p n6
    have l5 := b5 _ _ np l4
    have l6 := s6 _ _ l5
    clear b5 hw' s6
    walk_at "rd"
    refine ⟨p, longest, rfl, o6.p, by omega, by omega, fun u G7 hu b7 p7 => ?_⟩
    have o7 := o6.tr (Po.but b7 p7)
    have l7 := b7 _ _ np l6
    have f7 := b7 _ _ nq1 f6
    clear b7
    walk_at "rd"
    intro T G8 n8 s8 f8
    rw [show (1 : Int) + ((u : Nat) : Int) = ((1 + u : Nat) : Int) by rw [Int.natCast_add]; rfl] at f8
    have o8 := o7.same s8
    have o08 : Po p G0 G8 := g1.tr o8
    have hsl := congrArg List.length hsc
    rw [List.length_map] at hsl
    have lt : ∀ pa lo, lettersT ⟨sg, fs'.map fun c => S [c], pa, lo⟩ = cs.map fun c => S [c] := fun pa lo => by
      unfold lettersT
      rw [← hsc, List.map_map]
      rfl
    have mem1 : ∀ c ∈ cs, S [c] ∈ cs.map fun c => S [c] := fun c hc => List.mem_map.mpr ⟨c, hc, rfl⟩
    refine q ⟨sg, fs'.map fun c => S [c], ps, 1 + u⟩ T ls q1 lp xs G8 ⟨by show 2 ≤ sg.length; omega, by show sg.length ≤ 6; omega, hso, by show (sg.map Sg.c).Nodup; rw [hsc]; exact hcn, fun z hz => ?_, List.pairwise_map.mpr (hs2.imp fun {a b} n e => n (S1_inj e)), fun z hz => ?_, hpn, by show 1 ≤ 1 + u; omega, by show 1 + u ≤ 8; omega⟩ (oo.tr o08) ⟨rfl, delG f8 (pool_ne o7.p n8), o08.s _ _ gls, dqp.up o08.s, delG (s8 _ _ (by rw [List.map_map]; exact f7)) nq1, delG (s8 _ _ l7) np, by rw [List.length_map]; omega, by show ps.length ≤ 100; omega, fun z hz => ?_, by show sg.length ≤ 100; omega⟩
    · rw [lt]
      obtain ⟨c, hc, rfl⟩ := List.mem_map.mp hz
      exact mem1 _ (hs1 c hc)
    · rw [lt]
      obtain ⟨a, b, rfl, ha, hb⟩ := hps z hz
      exact ⟨a, b, rfl, mem1 _ ha, mem1 _ hb⟩
    · rcases List.mem_append.mp hz with hz | hz
      · obtain ⟨c, hc, rfl⟩ := List.mem_map.mp hz
        rw [M.S_len]
        show 1 ≤ 100
        decide
      · obtain ⟨a, b, rfl, ha, hb⟩ := hps z hz
        rw [M.S_len]
        show 2 ≤ 100
        decide
end
end My

namespace My
open PySem PySem.Spec PyProof.Rows L2 Z M SX TL
section
variable {P : Program} {w : World} {K : PySem.W.Frag} {mg : Str → Option Value} {base : Heap}
/-! ### names, wants and texts drawn -/
theorem mulL : ∀ c : Fin 26, ∀ n : Fin 6, MulOk (S [97 + c.1]) (n.1 : Nat) ∧ tl (Txt.mul (S [97 + c.1]) (n.1 : Nat)) = List.replicate n.1 (97 + c.1) := by decide +kernel
def endL : Nat → List Nat
  | 0 => []
  | 1 => [97]
  | _ => [122, 122]
def tellL (k salt : Nat) : List Nat := (97 + (37 * k + salt) % 61 % 26) :: endL ((37 * k + salt) % 61 / 26)
def moreL (salt : Nat) : List Nat := List.replicate (salt / 26 % 6) (97 + salt % 26)
def nameF (k salt : Nat) : Str := if salt % 2 = 0 then S (moreL salt ++ tellL k salt) else S (tellL k salt ++ moreL salt)
theorem endL_len {n : Nat} (h : n < 3) : (endL n).length = n := by
  rcases (show n = 0 ∨ n = 1 ∨ n = 2 by omega) with rfl | rfl | rfl <;> rfl
theorem tellL_inj {k k' salt : Nat} (h1 : k < 20) (h2 : k' < 20) (h : tellL k salt = tellL k' salt) : k = k' := by
  unfold tellL at h
  have h3 := (List.cons.inj h).1
  have h4 := congrArg List.length (List.cons.inj h).2
  rw [endL_len (by omega), endL_len (by omega)] at h4
  omega
theorem nameF_inj {k k' salt : Nat} (h1 : k < 20) (h2 : k' < 20) (h : nameF k salt = nameF k' salt) : k = k' := by
  unfold nameF at h
  split at h
  · exact tellL_inj h1 h2 (List.append_cancel_left (SX.S_inj h))
  · exact tellL_inj h1 h2 (List.append_cancel_right (SX.S_inj h))
theorem tellL_low {k salt : Nat} : ∀ c ∈ tellL k salt, low c = true := by
  intro c hc
  unfold tellL at hc
  rcases List.mem_cons.mp hc with rfl | hc
  · exact decide_eq_true (by omega)
  · revert hc
    generalize (37 * k + salt) % 61 / 26 = n
    intro hc
    match n, hc with
    | 0, hc => cases hc
    | 1, hc =>
      rw [List.mem_singleton.mp hc]
      decide
    | n + 2, hc =>
      rcases List.mem_cons.mp hc with rfl | hc
      · decide
      · rw [List.mem_singleton.mp hc]
        decide
theorem moreL_low {salt : Nat} : ∀ c ∈ moreL salt, low c = true := by
  intro c hc
  rw [(List.mem_replicate.mp hc).2]
  exact decide_eq_true (by omega)
theorem nameF_ok (k salt : Nat) : nameOk (nameF k salt) = true := by
  have l1 : (tellL k salt).length ≤ 3 := by
    unfold tellL
    rw [List.length_cons, endL_len (by omega)]
    omega
  have l0 : 1 ≤ (tellL k salt).length := by
    unfold tellL
    rw [List.length_cons]
    omega
  have l2 : (moreL salt).length ≤ 5 := by
    unfold moreL
    rw [List.length_replicate]
    omega
  unfold nameF nameOk
  split
  · rw [show tl (S (moreL salt ++ tellL k salt)) = moreL salt ++ tellL k salt from rfl, List.length_append, decide_eq_true (by omega), Bool.true_and]
    refine List.all_eq_true.mpr fun c hc => ?_
    rcases List.mem_append.mp hc with hc | hc
    · exact moreL_low c hc
    · exact tellL_low c hc
  · rw [show tl (S (tellL k salt ++ moreL salt)) = tellL k salt ++ moreL salt from rfl, List.length_append, decide_eq_true (by omega), Bool.true_and]
    refine List.all_eq_true.mpr fun c hc => ?_
    rcases List.mem_append.mp hc with hc | hc
    · exact tellL_low c hc
    · exact moreL_low c hc
def sp_name : Sp := fun vs H Q _ => ∃ k salt : Nat, vs = [.int k, .int salt] ∧ ∀ H', Same H H' → Q (.str (nameF k salt)) H'
theorem ok_law_name (T : Txt K mg) : Z.C0 P w K mg base 1 "_law_name" (sp_name) := by
  refine T.d_law_name.c0 sc_law_name (fun vs H Q E h => ?_) (Z.bd0 fun _ _ _ _ _ _ us hl => match us, hl with | [_, _], _ => rfl) (fun f cdv A outer s H vs Q E hr h => ⟨_, (pss_cons (ps_set (i := 2) sc_law_name.nd rfl (Or.inl rfl) pe_str)
  (pss_cons (ps_set (i := 3) sc_law_name.nd rfl (Or.inl rfl) (pe_op op_modP (pe_op (k_addP K) (pe_op op_mulP pe_int (pv 0)) (pv 1)) pe_int))
  (pss_cons (ps_set (i := 4) sc_law_name.nd rfl (Or.inl rfl) (pe_op (k_addP K) (pe_ix (k_ix K) (pv 2) (pe_op op_modP (pv 3) pe_int) (fun _ _ => rfl)) (pe_ix (k_ix K) (pe_lst (pa_cons pe_str (pa_cons pe_str (pa_cons pe_str pa_nil)))) (pe_op op_div (pv 3) pe_int) (fun _ _ => rfl))))
  (pss_cons (ps_set (i := 5) sc_law_name.nd rfl (Or.inl rfl) (pe_op op_mulS (pe_ix (k_ix K) (pv 2) (pe_op op_modP (pv 1) pe_int) (fun _ _ => rfl)) (pe_op op_modP (pe_op op_div (pv 1) pe_int) pe_int)))
  (pss_cons (ps_if (pt_cmpR (k_eqP K hr.units) (pe_op op_modP (pv 1) pe_int) pe_int (nomark _))
  (pss_one (ps_ret (pe_op (k_addP K) (pv 5) (pv 4)))) pss_nil)
  (pss_one (ps_ret (pe_op (k_addP K) (pv 4) (pv 5))))))))), ?_⟩)
  · obtain ⟨k, salt, rfl, _⟩ := h
    rfl
  · obtain ⟨k, salt, rfl, q⟩ := h
    rw [st_law_name]
    walk_at "st"
    walk_at "rd"
    have e0 : ((37 : Int) * ((k : Nat) : Int) + ((salt : Nat) : Int)) % (61 : Int) = (((37 * k + salt) % 61 : Nat) : Int) := by
      rw [Int.natCast_emod, Int.natCast_add, Int.natCast_mul]
      rfl
    rw [e0]
    obtain ⟨at_, hat⟩ : ∃ n, n = (37 * k + salt) % 61 := ⟨_, rfl⟩
    rw [← hat]
    have hat2 : at_ < 61 := by omega
    walk_at "rd"
    refine r_ixS (c := 97 + at_ % 26) (by decide +kernel) ?_ ?_
    · have := abc_at ⟨at_ % 26, by omega⟩
      rw [show ((at_ : Nat) : Int) % (26 : Int) = ((at_ % 26 : Nat) : Int) by omega]
      exact atI_nat this
    walk_at "rd"
    intro l1 H1 n1 s1 f1
    walk_at "rd"
    have e1 : ((at_ : Nat) : Int) / (26 : Int) = ((at_ / 26 : Nat) : Int) := by omega
    have e2 : atI [V.str (Str.ofString ""), V.str (Str.ofString "a"), V.str (Str.ofString "zz")] (((at_ : Nat) : Int) / (26 : Int)) = some (.str (S (endL (at_ / 26)))) := by
      rw [e1]
      have : at_ / 26 < 3 := by omega
      generalize at_ / 26 = n at this
      rcases (show n = 0 ∨ n = 1 ∨ n = 2 by omega) with rfl | rfl | rfl <;> decide +kernel
    have el : (S (endL (at_ / 26))).length ≤ 2 := by
      rw [M.S_len, endL_len (by omega)]
      omega
    have eo : (⟨#[97 + at_ % 26]⟩ : Str).length = 1 := rfl
    walk_at "rd"
    rw [show (⟨#[97 + at_ % 26]⟩ : Str) ++ S (endL (at_ / 26)) = S (tellL k salt) from ext_tl (by rw [tl_append, hat]; rfl)]
    refine r_ixS (c := 97 + salt % 26) (by decide +kernel) ?_ ?_
    · have := abc_at ⟨salt % 26, by omega⟩
      rw [show ((salt : Nat) : Int) % (26 : Int) = ((salt % 26 : Nat) : Int) by omega]
      exact atI_nat this
    walk_at "rd"
    obtain ⟨mo, mt⟩ := mulL ⟨salt % 26, by omega⟩ ⟨salt / 26 % 6, by omega⟩
    have e3 : ((salt : Nat) : Int) / (26 : Int) % (6 : Int) = ((salt / 26 % 6 : Nat) : Int) := by omega
    rw [e3]
    refine r_mulS ?_ mo
    rw [show Txt.mul (⟨#[97 + salt % 26]⟩ : Str) ((salt / 26 % 6 : Nat) : Int) = S (moreL salt) from ext_tl mt]
    have l1 : (S (tellL k salt)).length ≤ 3 := by
      rw [M.S_len]
      unfold tellL
      rw [List.length_cons, endL_len (by omega)]
      omega
    have l2 : (S (moreL salt)).length ≤ 5 := by
      rw [M.S_len]
      unfold moreL
      rw [List.length_replicate]
      omega
    clear mo mt e0 e1 e2 e3
    walk_at "rd"
    refine r_ite (fun h1 => ?_) (fun h1 => ?_)
    · have hs : salt % 2 = 0 := by omega
      walk_at "rd"
      have e : S (moreL salt) ++ S (tellL k salt) = nameF k salt := by
        unfold nameF
        rw [if_pos hs, S_app]
      rw [e]
      exact q _ s1
    · have hs : ¬ salt % 2 = 0 := by omega
      walk_at "rd"
      have e : S (tellL k salt) ++ S (moreL salt) = nameF k salt := by
        unfold nameF
        rw [if_neg hs, S_app]
      rw [e]
      exact q _ s1
end
end My

namespace My
open PySem PySem.Spec PyProof.Rows L2 Z M SX TL
section
variable {P : Program} {w : World} {K : PySem.W.Frag} {mg : Str → Option Value} {base : Heap}
theorem nameOk_len {z : Str} (h : nameOk z = true) : z.length ≤ 8 := by
  unfold nameOk at h
  rw [Bool.and_eq_true] at h
  have := of_decide_eq_true h.1
  rw [len_tl]
  omega
def sp_lwants (K : PySem.W.Frag) : Sp := fun vs H Q _ => ∃ (p : Addr) (many : Nat), vs = [.ref p, .int many] ∧ PoolAt H p ∧ 1 ≤ many ∧ many ≤ 20 ∧
  ∀ ws l xs H', WsOk ws → ws.length = many → Po p H H' → L2.del H' p l = some (.lst xs) → DqAll (L2.del H' p) xs (wsD ws) → Q (.ref l) H'
theorem ok_law_wants (T : Txt K mg) : Z.C0 P w K mg base 2 "_law_wants" (sp_lwants K) := by
  refine T.d_law_wants.c0 sc_law_wants (fun vs H Q E h => ?_) (Z.bd0 fun _ _ _ _ _ _ us hl => match us, hl with | [_, _], _ => rfl) (fun f cdv A outer s H vs Q E hr h => ⟨_, (pss_cons (ps_set (i := 2) sc_law_wants.nd rfl (Or.inl rfl) (pe_c0 (ok_law_take T) hr (by decide) rfl (pa_cons (pv 0) (pa_cons pe_int pa_nil))))
  (pss_cons (ps_set (i := 3) sc_law_wants.nd rfl (Or.inl rfl) (pe_lst pa_nil))
  (pss_cons (ps_for PassesOwn.never rfl (pi_range1 rfl T.b_range (pa_cons (pv 1) pa_nil)) (pg_name (i := 4) sc_law_wants.nd rfl (Or.inl rfl))
  (pss_cons (ps_set (i := 5) sc_law_wants.nd rfl (Or.inl rfl) (pe_c0 (ok_law_take T) hr (by decide) rfl (pa_cons (pv 0) (pa_cons pe_int pa_nil))))
  (pss_cons (ps_set (i := 6) sc_law_wants.nd rfl (Or.inl rfl) (pe_c0 (ok_law_take T) hr (by decide) rfl (pa_cons (pv 0) (pa_cons (pe_ix (k_ix K) (pe_lst (pa_cons pe_int (pa_cons pe_int (pa_cons (pe_op (k_addP K) (pe_op op_powI pe_int pe_int) pe_int) (pa_cons pe_int pa_nil))))) (pv 5) (fun _ _ => rfl)) pa_nil))))
  (Evl.pss_cut (ps_if (pt_cmpR (k_eqP K hr.units) (pv 5) pe_int (nomark _))
  (pss_one (ps_set (i := 6) sc_law_wants.nd rfl (Or.inl rfl) (pe_op op_subI (pe_op op_powI pe_int pe_int) (pv 6)))) pss_nil)
  (pss_one (ps_expr (k_bm K PySem.F.plainAttrs_list PySem.F.slot_list_append PySem.F.type_list_append mt_append (pv 3) (pa_cons (pe_tup (pa_cons (pe_c0 (ok_law_name T) hr (by decide) rfl (pa_cons (pv 4) (pa_cons (pv 2) pa_nil))) (pa_cons (pv 6) pa_nil))) pa_nil))))))))
  (pss_one (ps_ret (pv 3)))))), ?_⟩)
  · obtain ⟨p, many, rfl, _⟩ := h
    rfl
  · obtain ⟨p, many, rfl, hp, hm1, hm2, q⟩ := h
    rw [st_law_wants]
    walk_at "st"
    walk_at "rd"
    refine ⟨p, 9516, rfl, hp, by decide, by decide, fun salt H1 hsalt b1 p1 => ?_⟩
    have o1 := Po.but b1 p1
    clear b1
    walk_at "rd"
    intro l H2 n2 s2 f2
    have o2 := (Po.refl p1).same s2
    have nl : l ≠ p := pool_ne p1 n2
    clear s2
    walk_at "rd"
    refine forW walk_r0 (fun i σ G => ∃ (z4 z5 z6 : Option V) (ws : List (Str × Nat)) (xs : List V), σ = [some (.ref p), some (.int many), some (.int salt), some (.ref l), z4, z5, z6] ∧ Po p H1 G ∧ G l = some (.lst xs) ∧
      xs.length = i ∧ DqAll (L2.del (L2.del G p) l) xs (wsD ws) ∧ ws.map (·.1) = (List.range i).map (fun k => nameF k salt) ∧ ∀ w ∈ ws, w.2 ≤ 1000000000) ⟨none, none, none, [], [], rfl, o2, f2, rfl, .nil, rfl, fun w hw => absurd hw List.not_mem_nil⟩ (fun _ _ _ _ _ => trivial) ?_ ?_
    · rintro i x σ _ G hi ⟨z4, z5, z6, ws, xs, rfl, g0, gl, hx, hd, hw, hc⟩ ⟨rfl, rfl⟩
      walk_at "rd"
      refine ⟨p, 4, rfl, g0.p, by decide, by decide, fun w G1 hw1 b1 p1 => ?_⟩
      have g1 := g0.tr (Po.but b1 p1)
      have gl1 := b1 _ _ nl gl
      have hd1 := hd.up (delS (delB b1))
      clear b1
      walk_at "rd"
      intro l2 G2 m2 s2 f2
      have g2 := g1.same s2
      have gl2 := s2 _ _ gl1
      have hd2 := hd1.up (delS (delS s2))
      obtain ⟨m, hv, hm3, hm4, hm5⟩ : ∃ m : Nat, atI [V.int 1, V.int 10, V.int 1000000001, V.int 3] ((w : Nat) : Int) = some (.int m) ∧ 1 ≤ m ∧ m ≤ 1000000001 ∧ (w = 3 → m = 3) := by
        rcases (show w = 0 ∨ w = 1 ∨ w = 2 ∨ w = 3 by omega) with rfl | rfl | rfl | rfl
        · exact ⟨1, rfl, by decide, by decide, fun e => by cases e⟩
        · exact ⟨10, rfl, by decide, by decide, fun e => by cases e⟩
        · exact ⟨1000000001, rfl, by decide, by decide, fun e => by cases e⟩
        · exact ⟨3, rfl, by decide, by decide, fun _ => rfl⟩
      clear s2
      walk_at "rd"
      refine ⟨p, m, rfl, g2.p, hm3, hm4, fun x G3 hx3 b3 p3 => ?_⟩
      have g3 := g2.tr (Po.but b3 p3)
      have gl3 := b3 _ _ nl gl2
      have hd3 := hd2.up (delS (delB b3))
      clear b3 hd hd1 hd2
      walk_at "rd"
      refine r_cut (fun σ' H' => G3 = H' ∧ ∃ cn : Nat, cn ≤ 1000000000 ∧ σ' = [some (.ref p), some (.int many), some (.int salt), some (.ref l), some (.int i), some (.int w), some (.int cn)]) ?_ ?_
      · walk_at "rd"
        refine r_ite (fun h1 => ?_) (fun h1 => ?_)
        · have h3 := hm5 (by omega)
          walk_at "rd"
          exact ⟨rfl, 1000000000 - x, by omega, by rw [show (1000000000 : Int) - ((x : Nat) : Int) = ((1000000000 - x : Nat) : Int) by omega]⟩
        · walk_at "rd"
          exact ⟨rfl, x, by omega, rfl⟩
      rintro σ' _ ⟨rfl, cn, hcn, rfl⟩
      walk_at "rd"
      refine ⟨i, salt, rfl, fun G4 s4 => ?_⟩
      have hnl : (nameF i salt).length ≤ 8 := nameOk_len (nameF_ok i salt)
      have g4 := g3.same s4
      have gl4 := s4 _ _ gl3
      walk_at "rd"
      intro T5 G5 m5 s5 f5
      have gl5 := s5 _ _ gl4
      have nT : T5 ≠ l := (ne1 m5 gl4).symm
      have nTp : T5 ≠ p := pool_ne g4.p m5
      have g5 := g4.same s5
      walk_at "rd"
      intro G6 b6 f6
      have e36 : Same (L2.del (L2.del G3 p) l) (L2.del (L2.del G6 p) l) := (delS (delS (s4.trans s5))).trans (delB2 b6)
      refine ⟨_, _, _, ws ++ [(nameF i salt, cn)], xs ++ [.ref T5], rfl, g5.butN b6 n2 nl, f6, by rw [List.length_append, hx]; rfl, ?_, ?_, ?_⟩
      · unfold wsD
        rw [List.map_append]
        refine DqAll.app (hd3.up e36) (.cons (.tup (delB2 b6 _ _ (delG (delG f5 nTp) nT)) (.cons (.str _ (by omega)) (.cons (.int _) .nil)) (by simp)) .nil)
      · rw [List.map_append, hw, List.range_succ, List.map_append]
        rfl
      · intro v hv
        rcases List.mem_append.mp hv with hv | hv
        · exact hc v hv
        · rw [List.mem_singleton.mp hv]
          exact hcn
    · rintro σ G ⟨z4, z5, z6, ws, xs, rfl, g0, gl, hx, hd, hw, hc⟩
      walk_at "rd"
      have hwl : ws.length = many := by
        have := congrArg List.length hw
        rw [List.length_map, List.length_map, List.length_range] at this
        omega
      refine q ws l xs G ⟨by omega, by omega, ?_, fun w hw2 => ?_, hc⟩ hwl (o1.tr g0) (delG gl nl) (hd.up del_sub)
      · rw [hw]
        refine List.Pairwise.map (R := fun a b => a < 20 ∧ b < 20 ∧ a ≠ b) _ (fun a b h e => h.2.2 (nameF_inj h.1 h.2.1 e)) ?_
        refine List.Pairwise.imp_of_mem (R := (· ≠ ·)) (fun ha hb h => ⟨?_, ?_, h⟩) List.nodup_range
        · have := List.mem_range.mp ha
          omega
        · have := List.mem_range.mp hb
          omega
      · have : w.1 ∈ ws.map (·.1) := List.mem_map.mpr ⟨w, hw2, rfl⟩
        rw [hw] at this
        obtain ⟨k, _, e⟩ := List.mem_map.mp this
        rw [← e]
        exact nameF_ok _ _
end
end My

namespace My
open PySem PySem.Spec PyProof.Rows L2 Z M SX TL
section
variable {P : Program} {w : World} {K : PySem.W.Frag} {mg : Str → Option Value} {base : Heap}
/-- the texts drawn: one to eight small letters -/
def wordOk (z : Str) : Prop := ∃ l : List Nat, z = S l ∧ 1 ≤ l.length ∧ l.length ≤ 8 ∧ ∀ c ∈ l, low c = true
def sp_ltexts (K : PySem.W.Frag) : Sp := fun vs H Q _ => ∃ (p : Addr) (many : Nat), vs = [.ref p, .int many] ∧ PoolAt H p ∧ 1 ≤ many ∧ many ≤ 20 ∧
  ∀ (bs : List Str) l H', (∀ z ∈ bs, wordOk z) → bs.length = many → Po p H H' → L2.del H' p l = some (.lst (bs.map V.str)) → Q (.ref l) H'
theorem ok_law_texts (T : Txt K mg) : Z.C0 P w K mg base 2 "_law_texts" (sp_ltexts K) := by
  refine T.d_law_texts.c0 sc_law_texts (fun vs H Q E h => ?_) (Z.bd0 fun _ _ _ _ _ _ us hl => match us, hl with | [_, _], _ => rfl) (fun f cdv A outer s H vs Q E hr h => ⟨_, (pss_cons (ps_set (i := 2) sc_law_texts.nd rfl (Or.inl rfl) (pe_lst pa_nil))
  (pss_cons (ps_for PassesOwn.never rfl (pi_range1 rfl T.b_range (pa_cons (pv 1) pa_nil)) (pg_name (i := 3) sc_law_texts.nd rfl (Or.inl rfl))
  (pss_cons (ps_set (i := 4) sc_law_texts.nd rfl (Or.inr rfl) (pe_c0 (ok_law_take T) hr (by decide) rfl (pa_cons (pv 0) (pa_cons pe_int pa_nil))))
  (pss_cons (ps_set (i := 5) sc_law_texts.nd rfl (Or.inr rfl) (pe_c0 (ok_law_take T) hr (by decide) rfl (pa_cons (pv 0) (pa_cons pe_int pa_nil))))
  (pss_cons (ps_set (i := 6) sc_law_texts.nd rfl (Or.inl rfl) (pe_op (k_addP K) pe_int (pe_c0 (ok_law_take T) hr (by decide) rfl (pa_cons (pv 0) (pa_cons pe_int pa_nil)))))
  (pss_one (ps_expr (k_bm K PySem.F.plainAttrs_list PySem.F.slot_list_append PySem.F.type_list_append mt_append (pv 2) (pa_cons (k_bm K PySem.F.plainAttrs_str PySem.F.slot_str_join PySem.F.type_str_join (k_join K) pe_str (pa_cons (pe_lc (own := [("_law_j", 7)]) rfl sc_law_texts.nd (pi_range1 rfl T.b_range (pa_cons (pv 6) pa_nil)) (blkOk_by (N := ["_law_pool_here", "_law_many", "_law_found", "_law_k", "_law_at", "_law_step", "_law_size", "_law_j"]) (sc := defScope s_law_texts) (by decide +kernel)) (fun _ _ _ _ _ => (pg_name (i := 7) sc_law_texts.nd rfl (Or.inl rfl))) (fun _ _ _ _ _ => pts_nil) (fun _ _ _ _ _ => (pe_ix (k_ix K) pe_str (pe_op op_modP (pe_op (k_addP K) (pv 4) (pe_op op_mulP (pv 5) (pv 7))) pe_int) (fun _ _ => rfl)))) pa_nil)) pa_nil))))))))
  (pss_one (ps_ret (pv 2))))), ?_⟩)
  · obtain ⟨p, many, rfl, _⟩ := h
    rfl
  · obtain ⟨p, many, rfl, hp, hm1, hm2, q⟩ := h
    rw [st_law_texts]
    walk_at "st"
    walk_at "rd"
    intro l H2 n2 s2 f2
    have o2 := (Po.refl hp).same s2
    have nl : l ≠ p := pool_ne hp n2
    clear s2
    walk_at "rd"
    refine forW walk_r0 (fun i σ G => ∃ (z3 z4 z5 z6 : Option V) (bs : List Str), σ = [some (.ref p), some (.int many), some (.ref l), z3, z4, z5, z6, none] ∧ Po p H G ∧ G l = some (.lst (bs.map V.str)) ∧
      bs.length = i ∧ ∀ z ∈ bs, wordOk z) ⟨none, none, none, none, [], rfl, o2, f2, rfl, fun w hw => absurd hw List.not_mem_nil⟩ (fun _ _ _ _ _ => trivial) ?_ ?_
    · rintro i x σ _ G hi ⟨z3, z4, z5, z6, bs, rfl, g0, gl, hx, hb⟩ ⟨rfl, rfl⟩
      walk_at "rd"
      refine ⟨p, 26, rfl, g0.p, by decide, by decide, fun w1 G1 hw1 b1 p1 => ?_⟩
      have g1 := g0.tr (Po.but b1 p1)
      have gl1 := b1 _ _ nl gl
      clear b1
      walk_at "rd"
      refine ⟨p, 26, rfl, g1.p, by decide, by decide, fun w2 G2 hw2 b2 p2 => ?_⟩
      have g2 := g1.tr (Po.but b2 p2)
      have gl2 := b2 _ _ nl gl1
      clear b2
      walk_at "rd"
      refine ⟨p, 8, rfl, g2.p, by decide, by decide, fun w3 G3 hw3 b3 p3 => ?_⟩
      have g3 := g2.tr (Po.but b3 p3)
      have gl3 := b3 _ _ nl gl2
      clear b3
      walk_at "rd"
      rw [show (1 : Int) + ((w3 : Nat) : Int) = ((1 + w3 : Nat) : Int) by rw [Int.natCast_add]; rfl]
      walk_at "rd"
      refine lcW walk_r0 (fun j acc _ => acc = (((List.range j).map fun k => 97 + (w1 + w2 * k) % 26).map fun c => S [c]).map V.str) rfl (fun _ _ => trivial) (fun _ _ => rfl) ?_ ?_
      · rintro j x acc Dl _ G4 hj hD h1 h2 hl2 rfl ⟨rfl, rfl⟩
        walk_at "rd"
        have hlt : (w1 + w2 * j) % 26 < 26 := Nat.mod_lt _ (by decide)
        refine r_ixS (c := 97 + (w1 + w2 * j) % 26) (by decide +kernel) ?_ ?_
        · have := abc_at ⟨(w1 + w2 * j) % 26, hlt⟩
          have e : (((w1 : Nat) : Int) + ((w2 : Nat) : Int) * ((j : Nat) : Int)) % (26 : Int) = (((w1 + w2 * j) % 26 : Nat) : Int) := by
            rw [Int.natCast_emod, Int.natCast_add, Int.natCast_mul]
            rfl
          rw [e]
          exact atI_nat this
        refine lc_put (by omega) hD h1 h2 hl2 fun H5 _ _ => ?_
        rw [List.range_succ, List.map_append, List.map_append, List.map_append]
        rfl
      rintro acc lc G4 hlc s4 f4 rfl
      rw [show (((1 + w3 : Nat) : Int)).toNat = 1 + w3 by omega] at f4
      have gl4 := s4 _ _ gl3
      have g4 := g3.same s4
      have hlo : ∀ c ∈ ((List.range (1 + w3)).map fun k => 97 + (w1 + w2 * k) % 26), low c = true := by
        intro c hc
        obtain ⟨k, _, rfl⟩ := List.mem_map.mp hc
        have : (w1 + w2 * k) % 26 < 26 := Nat.mod_lt _ (by decide)
        generalize (w1 + w2 * k) % 26 = y at this
        exact decide_eq_true (by omega)
      have hln : ((List.range (1 + w3)).map fun k => 97 + (w1 + w2 * k) % 26).length = 1 + w3 := by simp
      revert f4 hlo hln
      generalize ((List.range (1 + w3)).map fun k => 97 + (w1 + w2 * k) % 26) = cs
      intro f4 hlo hln
      clear s4
      walk_at "rd"
      rw [show Str.ofString "" = S [] from rfl]
      refine r_join1 (sqL f4) (by omega) ?_
      have hl7 : (bs.map V.str).length < 16777216 := by
        rw [List.length_map]
        omega
      walk_at "rd"
      intro G5 b5 f5
      refine ⟨_, _, _, _, bs ++ [S cs], rfl, g4.butN b5 n2 nl, by rw [f5, List.map_append]; rfl, by rw [List.length_append, hx]; rfl, fun z hz => ?_⟩
      rcases List.mem_append.mp hz with hz | hz
      · exact hb z hz
      · rw [List.mem_singleton.mp hz]
        exact ⟨cs, rfl, by omega, by omega, hlo⟩
    · rintro σ G ⟨z3, z4, z5, z6, bs, rfl, g0, gl, hx, hb⟩
      walk_at "rd"
      exact q bs l G hb (by omega) g0 (delG gl nl)
end
end My

namespace My
open PySem PySem.Spec PyProof.Rows L2 Z M SX TL
section
variable {P : Program} {w : World} {K : PySem.W.Frag} {mg : Str → Option Value} {base : Heap}
/-! ### the case -/
structure CsOk (t : Tg) (ws : List (Str × Nat)) (bo : Option (List Str)) : Prop where
  t : TgOk t
  w : WsOk ws
  b : ∀ bs, bo = some bs → bs.length = ws.length ∧ ∀ z ∈ bs, wordOk z
/-- a case at c: its parts -/
structure CsP (H : Hp) (T l : Addr) (vb : V) (t : Tg) (ws : List (Str × Nat)) (bo : Option (List Str)) (a1 a2 a3 : Addr) (xs ys : List V) : Prop where
  t : TgAt H (.ref T) t T a1 a2 a3 xs
  l : H l = some (.lst ys)
  d : DqAll H ys (wsD ws)
  b : (bo = none ∧ vb = .non) ∨ ∃ o bs, bo = some bs ∧ vb = .ref o ∧ H o = some (.lst (bs.map V.str))
def CsAt (H : Hp) (c : Addr) (t : Tg) (ws : List (Str × Nat)) (bo : Option (List Str)) : Prop := ∃ T l vb a1 a2 a3 xs ys, H c = some (.tup [.ref T, .ref l, vb]) ∧ CsP H T l vb t ws bo a1 a2 a3 xs ys
theorem CsP.up {H H' : Hp} {T l : Addr} {vb : V} {t : Tg} {ws : List (Str × Nat)} {bo : Option (List Str)} {a1 a2 a3 : Addr} {xs ys : List V} (h : CsP H T l vb t ws bo a1 a2 a3 xs ys) (e : Same H H') : CsP H' T l vb t ws bo a1 a2 a3 xs ys :=
  ⟨h.t.up e, e _ _ h.l, h.d.up e, h.b.elim .inl fun ⟨o, bs, h1, h2, h3⟩ => .inr ⟨o, bs, h1, h2, e _ _ h3⟩⟩
theorem CsAt.up {H H' : Hp} {c : Addr} {t : Tg} {ws : List (Str × Nat)} {bo : Option (List Str)} (h : CsAt H c t ws bo) (e : Same H H') : CsAt H' c t ws bo := by
  obtain ⟨T, l, vb, a1, a2, a3, xs, ys, h1, h2⟩ := h
  exact ⟨T, l, vb, a1, a2, a3, xs, ys, e _ _ h1, h2.up e⟩
theorem word_len {z : Str} (h : wordOk z) : z.length ≤ 8 := by
  obtain ⟨l, rfl, _, h, _⟩ := h
  rw [M.S_len]
  exact h
theorem CsP.bo {H : Hp} {T l : Addr} {vb : V} {t : Tg} {ws : List (Str × Nat)} {bo : Option (List Str)} {a1 a2 a3 : Addr} {xs ys : List V} (h : CsP H T l vb t ws bo a1 a2 a3 xs ys) (k : CsOk t ws bo) : BoAt H vb bo :=
  ⟨h.b, fun bs e => ⟨by have := (k.b bs e).1; have := k.w.l2; omega, fun z hz => by have := word_len ((k.b bs e).2 z hz); omega⟩⟩
/-- a new pool's work: what was there stands -/
theorem Po.new {p : Addr} {H H1 H2 : Hp} (n : H p = none) (e : Same H H1) (o : Po p H1 H2) : Same H (L2.del H2 p) := (toDel e n).trans o.s
def sp_case (K : PySem.W.Frag) : Sp := fun vs H Q _ => ∃ (a : Addr) (ns : List Int) (most : Nat), vs = [.ref a, .int most] ∧ SqL K H a (ns.map V.int) ∧ 1 ≤ most ∧ most ≤ 20 ∧
  ∀ c t ws bo H', CsOk t ws bo → ws.length ≤ most → Same H H' → CsAt H' c t ws bo → Q (.ref c) H'
theorem ok_law_case (T : Txt K mg) : Z.C0 P w K mg base 4 "_law_case" (sp_case K) := by
  refine T.d_law_case.c0 sc_law_case (fun vs H Q E h => ?_) (Z.bd0 fun _ _ _ _ _ _ us hl => match us, hl with | [_, _], _ => rfl) (fun f cdv A outer s H vs Q E hr h => ⟨_, (pss_cons (ps_set (i := 2) sc_law_case.nd rfl (Or.inl rfl) (pe_c0 (ok_law_pool T) hr (by decide) rfl (pa_cons (pv 0) (pa_cons pe_int pa_nil))))
  (pss_cons (ps_set (i := 3) sc_law_case.nd rfl (Or.inl rfl) (pe_c0 (ok_law_tongue T) hr (by decide) rfl (pa_cons (pv 2) (pa_cons pe_int (pa_cons pe_int pa_nil)))))
  (pss_cons (ps_set (i := 2) sc_law_case.nd rfl (Or.inl rfl) (pe_c0 (ok_law_pool T) hr (by decide) rfl (pa_cons (pv 0) (pa_cons pe_int pa_nil))))
  (pss_cons (ps_set (i := 4) sc_law_case.nd rfl (Or.inl rfl) (pe_c0 (ok_law_wants T) hr (by decide) rfl (pa_cons (pv 2) (pa_cons (pe_op (k_addP K) pe_int (pe_c0 (ok_law_take T) hr (by decide) rfl (pa_cons (pv 2) (pa_cons (pv 1) pa_nil)))) pa_nil))))
  (pss_cons (ps_set (i := 5) sc_law_case.nd rfl (Or.inl rfl) pe_non)
  (pss_cons (ps_set (i := 2) sc_law_case.nd rfl (Or.inl rfl) (pe_c0 (ok_law_pool T) hr (by decide) rfl (pa_cons (pv 0) (pa_cons pe_int pa_nil))))
  (Evl.pss_cut (ps_if (pt_cmpR op_gtI (pe_c0 (ok_law_take T) hr (by decide) rfl (pa_cons (pv 2) (pa_cons pe_int pa_nil))) pe_int (nomark _))
  (pss_one (ps_set (i := 5) sc_law_case.nd rfl (Or.inl rfl) (pe_c0 (ok_law_texts T) hr (by decide) rfl (pa_cons (pv 2) (pa_cons (pe_callB (k_len K) rfl T.b_len (by decide +kernel) (pa_cons (pv 4) pa_nil)) pa_nil))))) pss_nil)
  (pss_one (ps_ret (pe_tup (pa_cons (pv 3) (pa_cons (pv 4) (pa_cons (pv 5) pa_nil))))))))))))), ?_⟩)
  · obtain ⟨a, ns, most, rfl, _⟩ := h
    rfl
  · obtain ⟨a, ns, most, rfl, ha, hm1, hm2, q⟩ := h
    rw [st_law_case]
    walk_at "st"
    walk_at "rd"
    refine ⟨a, ns, 0, rfl, ha, by decide, fun p1 H1 n1 s1 q1 => ?_⟩
    walk_at "rd"
    refine ⟨p1, 6, 8, rfl, q1, by decide, by decide, by decide, by decide, fun t T a1 a2 a3 xs H2 ht o2 tg => ?_⟩
    have e2 : Same H (L2.del H2 p1) := Po.new n1 s1 o2
    have tg2 := tg.up del_sub
    have e2' : Same H H2 := e2.trans del_sub
    have ha2 := upL e2' ha
    clear tg o2 e2 s1
    walk_at "rd"
    refine ⟨a, ns, 1, rfl, ha2, by decide, fun p3 H3 n3 s3 q3 => ?_⟩
    walk_at "rd"
    refine ⟨p3, most, rfl, q3, hm1, by omega, fun mm H4 hmm b4 q4 => ?_⟩
    have o4 := Po.but b4 q4
    walk_at "rd"
    rw [show (1 : Int) + ((mm : Nat) : Int) = ((1 + mm : Nat) : Int) by rw [Int.natCast_add]; rfl]
    refine ⟨p3, 1 + mm, rfl, q4, by omega, by omega, fun ws l ys H5 hw hwl o5 l5 d5 => ?_⟩
    have e5 : Same H2 (L2.del H5 p3) := Po.new n3 s3 (o4.tr o5)
    have tg5 := tg2.up (e5.trans del_sub)
    have l5' := del_sub _ _ l5
    have d5' := d5.up del_sub
    have e5' : Same H H5 := e2'.trans (e5.trans del_sub)
    have ha5 := upL e5' ha
    clear b4 o4 o5 l5 d5 e5 e2' s3 tg2
    walk_at "rd"
    refine ⟨a, ns, 2, rfl, ha5, by decide, fun p6 H6 n6 s6 q6 => ?_⟩
    walk_at "rd"
    refine r_cut (fun σ' H' => ∃ (vb : V) (bo : Option (List Str)) (T' : Option V), σ' = [some (.ref a), some (.int most), some (.ref p6), some (.ref T), some (.ref l), some vb] ∧ Same H5 H' ∧ (∀ bs, bo = some bs → bs.length = ws.length ∧ ∀ z ∈ bs, wordOk z) ∧ ((bo = none ∧ vb = .non) ∨ ∃ o bs, bo = some bs ∧ vb = .ref o ∧ H' o = some (.lst (bs.map V.str)))) ?_ ?_
    · walk_at "rd"
      refine ⟨p6, 3, rfl, q6, by decide, by decide, fun w H7 hw7 b7 q7 => ?_⟩
      have o7 := Po.but b7 q7
      have e7 := (Po.new n6 s6 o7).trans del_sub
      have l7 := e7 _ _ l5'
      have hyl : ys.length = ws.length := by
        have := d5'.length
        rw [this]
        unfold wsD
        rw [List.length_map]
      clear b7
      walk_at "rd"
      refine r_ite (fun h1 => ?_) (fun h1 => ?_)
      · walk_at "rd"
        rw [hyl]
        refine ⟨p6, ws.length, rfl, q7, hw.l1, hw.l2, fun bs lb H8 hb hbl o8 f8 => ?_⟩
        walk_at "rd"
        exact ⟨.ref lb, some bs, none, rfl, (Po.new n6 s6 (o7.tr o8)).trans del_sub, fun bs' e => by cases e; exact ⟨hbl, hb⟩, .inr ⟨lb, bs, rfl, rfl, del_sub _ _ f8⟩⟩
      · walk_at "rd"
        exact ⟨.non, none, none, rfl, e7, (fun bs e => by cases e), .inl ⟨rfl, rfl⟩⟩
    rintro σ' H7 ⟨vb, bo, _, rfl, e7, hb, hv⟩
    have tg7 := tg5.up e7
    have e7' := e5'.trans e7
    have l7 := e7 _ _ l5'
    have d7 := d5'.up e7
    clear tg5 e5' e7 s6
    walk_at "rd"
    intro c H8 n8 s8 f8
    exact q c t ws bo H8 ⟨ht, hw, hb⟩ (by omega) (e7'.trans s8) ⟨T, l, vb, a1, a2, a3, xs, ys, f8, (CsP.mk tg7 l7 d7 hv).up s8⟩
end
end My

namespace My
open PySem PySem.Spec PyProof.Rows L2 Z M SX TL
section
variable {P : Program} {w : World} {K : PySem.W.Frag} {mg : Str → Option Value} {base : Heap}
theorem len_wsD (ws : List (Str × Nat)) : (wsD ws).length = ws.length := List.length_map _
theorem intL_nat (d : Nat) : intL (d : Int) = numL d := by
  unfold intL
  rw [if_neg (by omega), Int.natAbs_natCast]
theorem want_tup {H : Hp} {v : V} {w : Str × Nat} (h : Dq H v (wantD w)) : ∃ T, v = .ref T ∧ H T = some (.tup [.str w.1, .int (w.2 : Nat)]) := by
  cases h with
  | tup h1 h2 _ =>
    obtain ⟨u1, _, rfl, g1, h2⟩ := DqAll.cons_inv h2
    obtain ⟨u2, _, rfl, g2, h2⟩ := DqAll.cons_inv h2
    obtain rfl := DqAll.nil_inv h2
    rw [g1.strV, g2.intV] at h1
    exact ⟨_, rfl, h1⟩
end
end My

namespace My
open PySem PySem.Spec PyProof.Rows L2 Z M SX TL
section
variable {P : Program} {w : World} {K : PySem.W.Frag} {mg : Str → Option Value} {base : Heap}
/-! ### the copy -/
structure CpN (H : Hp) (l : Addr) (vb : V) (a1 a2 a3 : Addr) : Prop where
  n1 : H a1 = none
  n2 : H a2 = none
  n3 : H a3 = none
  nl : H l = none
  d : a1 ≠ a2 ∧ a1 ≠ a3 ∧ a1 ≠ l ∧ a2 ≠ a3 ∧ a2 ≠ l ∧ a3 ≠ l
  o : ∀ o, vb = .ref o → H o = none ∧ o ≠ a1 ∧ o ≠ a2 ∧ o ≠ a3 ∧ o ≠ l
def sp_copy (K : PySem.W.Frag) : Sp := fun vs H Q _ => ∃ c T l vb t ws bo a1 a2 a3 xs ys, vs = [.ref c] ∧ H c = some (.tup [.ref T, .ref l, vb]) ∧ CsP H T l vb t ws bo a1 a2 a3 xs ys ∧
  ∀ c' T' l' vb' a1' a2' a3' H', Same H H' → H' c' = some (.tup [.ref T', .ref l', vb']) → CsP H' T' l' vb' t ws bo a1' a2' a3' xs ys → CpN H l' vb' a1' a2' a3' → Q (.ref c') H'
theorem ok_law_copy (T : Txt K mg) : Z.C0 P w K mg base 1 "_law_copy" (sp_copy K) := by
  refine T.d_law_copy.c0 sc_law_copy (fun vs H Q E h => ?_) (Z.bd0 fun _ _ _ _ _ _ us hl => match us, hl with | [_], _ => rfl) (fun f cdv A outer s H vs Q E hr h => ⟨_, (pss_cons (ps_asg (pv 0) (k_tup (n := 3) K rfl (pgs_cons (pg_name (i := 1) sc_law_copy.nd rfl (Or.inl rfl)) (pgs_cons (pg_name (i := 2) sc_law_copy.nd rfl (Or.inl rfl)) (pgs_cons (pg_name (i := 3) sc_law_copy.nd rfl (Or.inl rfl)) pgs_nil)))))
  (pss_cons (ps_set (i := 4) sc_law_copy.nd rfl (Or.inl rfl) (pe_tup (pa_cons (pe_callTy (k_list K) rfl T.b_list (by decide +kernel) (pa_cons (pe_ix (k_ix K) (pv 1) pe_int (fun _ _ => rfl)) pa_nil)) (pa_cons (pe_callTy (k_list K) rfl T.b_list (by decide +kernel) (pa_cons (pe_ix (k_ix K) (pv 1) pe_int (fun _ _ => rfl)) pa_nil)) (pa_cons (pe_callTy (k_list K) rfl T.b_list (by decide +kernel) (pa_cons (pe_ix (k_ix K) (pv 1) pe_int (fun _ _ => rfl)) pa_nil)) (pa_cons (pe_ix (k_ix K) (pv 1) pe_int (fun _ _ => rfl)) pa_nil))))))
  (pss_cons (ps_if (pt_cmpR op_isP (pv 3) pe_non (nomark _))
  (pss_one (ps_ret (pe_tup (pa_cons (pv 4) (pa_cons (pe_callTy (k_list K) rfl T.b_list (by decide +kernel) (pa_cons (pv 2) pa_nil)) (pa_cons pe_non pa_nil)))))) pss_nil)
  (pss_one (ps_ret (pe_tup (pa_cons (pv 4) (pa_cons (pe_callTy (k_list K) rfl T.b_list (by decide +kernel) (pa_cons (pv 2) pa_nil)) (pa_cons (pe_callTy (k_list K) rfl T.b_list (by decide +kernel) (pa_cons (pv 3) pa_nil)) pa_nil))))))))), ?_⟩)
  · obtain ⟨c, T, l, vb, t, ws, bo, a1, a2, a3, xs, ys, rfl, _⟩ := h
    rfl
  · obtain ⟨c, TT, l, vb, t, ws, bo, a1, a2, a3, xs, ys, rfl, hc, cp, q⟩ := h
    rw [st_law_copy]
    walk_at "st"
    have hT := cp.t.ht
    have h1 := cp.t.s
    have h2 := cp.t.f
    have h3 := cp.t.p
    have h4 := cp.l
    have j0 : atI [V.ref a1, V.ref a2, V.ref a3, V.int (t.lo : Nat)] 0 = some (.ref a1) := rfl
    have j1 : atI [V.ref a1, V.ref a2, V.ref a3, V.int (t.lo : Nat)] 1 = some (.ref a2) := rfl
    have j2 : atI [V.ref a1, V.ref a2, V.ref a3, V.int (t.lo : Nat)] 2 = some (.ref a3) := rfl
    have j3 : atI [V.ref a1, V.ref a2, V.ref a3, V.int (t.lo : Nat)] 3 = some (.int (t.lo : Nat)) := rfl
    walk_at "rd"
    intro b1 H1 n1 s1 f1
    walk_at "rd"
    intro b2 H2 n2 s2 f2
    walk_at "rd"
    intro b3 H3 n3 s3 f3
    walk_at "rd"
    intro b4 H4 n4 s4 f4
    have e2 := s1.trans s2
    have e3 := e2.trans s3
    have e4 := e3.trans s4
    have g1 : H4 b1 = some (.lst xs) := s4 _ _ (s3 _ _ (s2 _ _ f1))
    have g2 : H4 b2 = some (.lst (t.fi.map V.str)) := s4 _ _ (s3 _ _ f2)
    have g3 : H4 b3 = some (.lst (t.pa.map V.str)) := s4 _ _ f3
    have x2 := Z.fr n2 s1
    have x3 := Z.fr n3 e2
    have d12 : b1 ≠ b2 := ne1 n2 f1
    have d13 : b1 ≠ b3 := ne1 n3 (s2 _ _ f1)
    have d23 : b2 ≠ b3 := ne1 n3 f2
    have h4' := e4 _ _ h4
    clear s1 s2 s3 s4 f1 f2 f3 e2 e3 hc
    walk_at "rd"
    have tg : TgAt H4 (.ref b4) t b4 b1 b2 b3 xs := ⟨rfl, f4, g1, cp.t.q.up e4, g2, g3, cp.t.k1, cp.t.k2, cp.t.k3, cp.t.k4⟩
    rcases cp.b with ⟨rfl, rfl⟩ | ⟨o, bs, rfl, rfl, ho⟩
    · walk_at "rd"
      intro b5 H5 n5 s5 f5
      walk_at "rd"
      intro c' H6 n6 s6 f6
      exact q c' b4 b5 .non b1 b2 b3 H6 (e4.trans (s5.trans s6)) f6 ⟨tg.up (s5.trans s6), s6 _ _ f5, cp.d.up (e4.trans (s5.trans s6)), .inl ⟨rfl, rfl⟩⟩ ⟨n1, x2, x3, Z.fr n5 e4, ⟨d12, d13, ne1 n5 g1, d23, ne1 n5 g2, ne1 n5 g3⟩, fun o e => by cases e⟩
    · have ho4 := e4 _ _ ho
      walk_at "rd"
      intro b5 H5 n5 s5 f5
      have ho5 := s5 _ _ ho4
      walk_at "rd"
      intro b6 H6 n6 s6 f6
      walk_at "rd"
      intro c' H7 n7 s7 f7
      have e7 := s5.trans (s6.trans s7)
      exact q c' b4 b5 (.ref b6) b1 b2 b3 H7 (e4.trans e7) f7 ⟨tg.up e7, s7 _ _ (s6 _ _ f5), cp.d.up (e4.trans e7), .inr ⟨b6, bs, rfl, rfl, s7 _ _ f6⟩⟩ ⟨n1, x2, x3, Z.fr n5 e4, ⟨d12, d13, ne1 n5 g1, d23, ne1 n5 g2, ne1 n5 g3⟩, fun o e => by
        cases e
        exact ⟨Z.fr n6 (e4.trans s5), (ne1 n6 (s5 _ _ g1)).symm, (ne1 n6 (s5 _ _ g2)).symm, (ne1 n6 (s5 _ _ g3)).symm, (ne1 n6 f5).symm⟩⟩
end
end My

namespace My
open PySem PySem.Spec PyProof.Rows L2 Z M SX TL
section
variable {P : Program} {w : World} {K : PySem.W.Frag} {mg : Str → Option Value} {base : Heap}
/-! ### write_case -/
theorem CsP.dqw {H H' : Hp} {T l : Addr} {vb : V} {t : Tg} {ws : List (Str × Nat)} {bo : Option (List Str)} {a1 a2 a3 : Addr} {xs ys : List V} (h : CsP H T l vb t ws bo a1 a2 a3 xs ys) (k : ws.length ≤ 20) (e : Same H H') : Dq H' (.ref l) (.list (wsD ws)) :=
  .lst (e _ _ h.l) (h.d.up e) (by have := h.d.length; rw [len_wsD] at this; omega)
theorem rowsS_len {H : Hp} {T l : Addr} {vb : V} {t : Tg} {ws : List (Str × Nat)} {bo : Option (List Str)} {a1 a2 a3 : Addr} {xs ys : List V} (cp : CsP H T l vb t ws bo a1 a2 a3 xs ys) (ok : CsOk t ws bo) : ∀ z ∈ rowsS t ws bo, z.length ≤ 500 := by
  intro z hz
  unfold rowsS at hz
  simp only [List.mem_append, List.mem_map, List.mem_singleton] at hz
  rcases hz with (((⟨s, hs, rfl⟩ | ⟨y, hy, rfl⟩) | ⟨y, hy, rfl⟩) | (rfl | ⟨w, hw, rfl⟩)) | hz
  · exact signS_len (ok.t.sg _ hs)
  · have := cp.t.k3 y (List.mem_append_left _ hy)
    rw [Z.len_app]
    have e : (Str.ofString "first ").length = 6 := by decide +kernel
    omega
  · have := cp.t.k3 y (List.mem_append_right _ hy)
    rw [Z.len_app]
    have e : (Str.ofString "pair ").length = 5 := by decide +kernel
    omega
  · unfold longS
    have e : (Str.ofString "longest ").length = 8 := by decide +kernel
    have := int_len (n := ((t.lo : Nat) : Int)) (by rw [Int.natAbs_natCast]; have := ok.t.l2; omega)
    rw [Z.len_app, int_S']
    omega
  · unfold thingS
    have e1 : (Str.ofString "thing ").length = 6 := by decide +kernel
    have e2 : (Str.ofString " ").length = 1 := by decide +kernel
    have := int_len (n := ((w.2 : Nat) : Int)) (by rw [Int.natAbs_natCast]; have := ok.w.ct w hw; omega)
    have := nameOk_len (ok.w.nm w hw)
    rw [Z.len_app, Z.len_app, Z.len_app, int_S']
    omega
  · cases bo with
    | none => exact absurd hz List.not_mem_nil
    | some bs =>
      obtain ⟨y, hy, rfl⟩ := List.mem_map.mp hz
      have := word_len ((ok.b bs rfl).2 y hy)
      have e : (Str.ofString "word ").length = 5 := by decide +kernel
      rw [Z.len_app]
      omega
theorem rowsS_many {H : Hp} {T l : Addr} {vb : V} {t : Tg} {ws : List (Str × Nat)} {bo : Option (List Str)} {a1 a2 a3 : Addr} {xs ys : List V} (cp : CsP H T l vb t ws bo a1 a2 a3 xs ys) (ok : CsOk t ws bo) : (rowsS t ws bo).length ≤ 300 := by
  unfold rowsS
  have h1 := ok.t.n2
  have h2 := cp.t.k1
  have h3 := cp.t.k2
  have h4 := ok.w.l2
  have h5 : (bookS bo).length ≤ 20 := by
    cases bo with
    | none => exact Nat.zero_le _
    | some bs =>
      have := (ok.b bs rfl).1
      show (bs.map _).length ≤ 20
      rw [List.length_map]
      omega
  simp only [List.length_append, List.length_map, List.length_cons, List.length_nil]
  omega
theorem sum_len : ∀ (l : List Str), (∀ z ∈ l, z.length ≤ 500) → (l.map (·.length)).sum ≤ l.length * 500
  | [], _ => Nat.le_refl _
  | z :: l, h => by
    have h1 := h z List.mem_cons_self
    have h2 := sum_len l fun y hy => h y (List.mem_cons_of_mem _ hy)
    rw [List.map_cons, List.sum_cons, List.length_cons]
    omega
def sp_write (K : PySem.W.Frag) : Sp := fun vs H Q E => ∃ c x y z, vs = [.ref c] ∧ H c = some (.tup [x, y, z]) ∧ (
  (∃ d v, Dq H x d ∧ tongueErr d = some v ∧ rais K "NoTongue" "part" v H E) ∨
  (∃ d e v, Dq H x d ∧ tongueErr d = none ∧ Dq H y e ∧ wantsErr e = some v ∧ ∀ H', Same H H' → rais K "NoWants" "number" v H' E) ∨
  (∃ t ws bo T l a1 a2 a3 xs ys, x = .ref T ∧ y = .ref l ∧ CsP H T l z t ws bo a1 a2 a3 xs ys ∧ CsOk t ws bo ∧ ∀ H', Same H H' → Q (.str (Txt.join (S [10]) (rowsS t ws bo))) H'))
theorem ok_write_case (T : Txt K mg) : Z.CE P w K mg base 7 "write_case" (sp_write K) := by
  refine T.d_write_case.ce sc_write_case (fun vs H Q E h => ?_) (Z.bd0 fun _ _ _ _ _ _ us hl => match us, hl with | [_], _ => rfl) (fun f cdv A outer s H vs Q E hr h => ⟨_, (pss_cons (ps_asg (pv 0) (k_tup (n := 3) K rfl (pgs_cons (pg_name (i := 1) sc_write_case.nd rfl (Or.inl rfl)) (pgs_cons (pg_name (i := 2) sc_write_case.nd rfl (Or.inl rfl)) (pgs_cons (pg_name (i := 3) sc_write_case.nd rfl (Or.inl rfl)) pgs_nil)))))
  (pss_cons (ps_expr (pe_ce (ok_look_at_tongue T) hr (by decide) rfl (takes_of rfl rfl rfl rfl) (pa_cons (pv 1) pa_nil)))
  (pss_cons (ps_expr (pe_ce (ok_look_at_wants T) hr (by decide) rfl (takes_of rfl rfl rfl rfl) (pa_cons (pv 2) pa_nil)))
  (pss_cons (ps_asg (pv 1) (k_tup (n := 4) K rfl (pgs_cons (pg_name (i := 4) sc_write_case.nd rfl (Or.inl rfl)) (pgs_cons (pg_name (i := 5) sc_write_case.nd rfl (Or.inl rfl)) (pgs_cons (pg_name (i := 6) sc_write_case.nd rfl (Or.inl rfl)) (pgs_cons (pg_name (i := 7) sc_write_case.nd rfl (Or.inl rfl)) pgs_nil))))))
  (pss_cons (ps_setLc (i := 8) (own := [("row", 9)]) rfl sc_write_case.nd rfl rfl (sw_true rfl rfl rfl (by decide +kernel)) (k_iL K (pv 4)) (blkOk_by (N := ["case", "tongue", "wants", "book", "signs", "firsts", "pairs", "longest", "rows", "row", "sign", "pair", "name", "count", "word"]) (sc := defScope s_write_case) (by decide +kernel)) (fun _ _ _ _ _ => (pg_name (i := 9) sc_write_case.nd rfl (Or.inl rfl))) (fun _ _ _ _ _ => pts_nil) (fun _ _ _ _ _ => (pe_c0 (ok_sign_row T) hr (by decide) rfl (pa_cons (pv 9) pa_nil))))
  (pss_cons (ps_set (i := 8) sc_write_case.nd rfl (Or.inl rfl) (pe_op (k_addP K) (pe_op (k_addP K) (pv 8) (pe_lc (own := [("sign", 10)]) rfl sc_write_case.nd (k_iL K (pv 5)) (blkOk_by (N := ["case", "tongue", "wants", "book", "signs", "firsts", "pairs", "longest", "rows", "row", "sign", "pair", "name", "count", "word"]) (sc := defScope s_write_case) (by decide +kernel)) (fun _ _ _ _ _ => (pg_name (i := 10) sc_write_case.nd rfl (Or.inl rfl))) (fun _ _ _ _ _ => pts_nil) (fun _ _ _ _ _ => (pe_op (k_addP K) pe_str (pv 10))))) (pe_lc (own := [("pair", 11)]) rfl sc_write_case.nd (k_iL K (pv 6)) (blkOk_by (N := ["case", "tongue", "wants", "book", "signs", "firsts", "pairs", "longest", "rows", "row", "sign", "pair", "name", "count", "word"]) (sc := defScope s_write_case) (by decide +kernel)) (fun _ _ _ _ _ => (pg_name (i := 11) sc_write_case.nd rfl (Or.inl rfl))) (fun _ _ _ _ _ => pts_nil) (fun _ _ _ _ _ => (pe_op (k_addP K) pe_str (pv 11))))))
  (pss_cons (ps_set (i := 8) sc_write_case.nd rfl (Or.inl rfl) (pe_op (k_addP K) (pe_op (k_addP K) (pv 8) (pe_lst (pa_cons (pe_joined (PJ.cons pe_str (PJ.cons (pe_fmt (pv 7)) PJ.nil))) pa_nil))) (pe_lc (own := [("name", 12), ("count", 13)]) rfl sc_write_case.nd (k_iL K (pv 2)) (blkOk_by (N := ["case", "tongue", "wants", "book", "signs", "firsts", "pairs", "longest", "rows", "row", "sign", "pair", "name", "count", "word"]) (sc := defScope s_write_case) (by decide +kernel)) (fun _ _ _ _ _ => (k_tup (n := 2) K rfl (pgs_cons (pg_name (i := 12) sc_write_case.nd rfl (Or.inl rfl)) (pgs_cons (pg_name (i := 13) sc_write_case.nd rfl (Or.inl rfl)) pgs_nil)))) (fun _ _ _ _ _ => pts_nil) (fun _ _ _ _ _ => (pe_joined (PJ.cons pe_str (PJ.cons (pe_fmt (pv 12)) (PJ.cons pe_str (PJ.cons (pe_fmt (pv 13)) PJ.nil)))))))))
  (Evl.pss_cut (ps_if (pt_cmpR op_isNotP (pv 3) pe_non (nomark _))
  (pss_one (ps_set (i := 8) sc_write_case.nd rfl (Or.inl rfl) (pe_op (k_addP K) (pv 8) (pe_lc (own := [("word", 14)]) rfl sc_write_case.nd (k_iL K (pv 3)) (blkOk_by (N := ["case", "tongue", "wants", "book", "signs", "firsts", "pairs", "longest", "rows", "row", "sign", "pair", "name", "count", "word"]) (sc := defScope s_write_case) (by decide +kernel)) (fun _ _ _ _ _ => (pg_name (i := 14) sc_write_case.nd rfl (Or.inl rfl))) (fun _ _ _ _ _ => pts_nil) (fun _ _ _ _ _ => (pe_op (k_addP K) pe_str (pv 14))))))) pss_nil)
  (pss_one (ps_ret (k_bm K PySem.F.plainAttrs_str PySem.F.slot_str_join PySem.F.type_str_join (k_join K) pe_str (pa_cons (pv 8) pa_nil)))))))))))), ?_⟩)
  · obtain ⟨c, x, y, z, rfl, _⟩ := h
    rfl
  · obtain ⟨c, x, y, z, rfl, hc, q⟩ := h
    rw [st_write_case]
    walk_at "st"
    walk_at "rd"
    rcases q with ⟨d, v, hd, he, q⟩ | ⟨d, e, v, hd, he, hy, hw, q⟩ | ⟨t, ws, bo, TT, l, a1, a2, a3, xs, ys, rfl, rfl, cp, ok, q⟩
    · refine ⟨x, d, rfl, hd, ?_⟩
      rw [he]
      exact q
    · refine ⟨x, d, rfl, hd, ?_⟩
      rw [he]
      intro H1 e1
      walk_at "rd"
      refine ⟨y, e, rfl, hy.up e1, ?_⟩
      rw [hw]
      exact q _ e1
    · refine ⟨.ref TT, tgD t, rfl, cp.t.dq, ?_⟩
      rw [tgErr_ok ok.t]
      intro H1 e1
      walk_at "rd"
      refine ⟨.ref l, .list (wsD ws), rfl, cp.dqw (ok.w.l2) e1, ?_⟩
      rw [wantsErr_ok ok.w]
      intro H2 e2
      have eA := e1.trans e2
      have hT := eA _ _ cp.t.ht
      have h1 := eA _ _ cp.t.s
      have h2 := eA _ _ cp.t.f
      have h3 := eA _ _ cp.t.p
      have h4 := eA _ _ cp.l
      clear e1 e2
      have hxl := cp.t.q.length
      rw [List.length_map] at hxl
      have hyl := cp.d.length
      rw [len_wsD] at hyl
      have lsz := ok.t.n2
      have lfi := cp.t.k1
      have lpa := cp.t.k2
      have lws := ok.w.l2
      walk_at "rd"
      refine lcW (walk_list (xs := xs)) (fun i acc _ => acc = ((t.sg.take i).map signS).map V.str) rfl (fun _ e => sqL (e _ _ h1)) (fun _ _ => rfl) ?_ ?_
      · rintro i x acc Dl G1 G2 hi hD g1 g2 hl2 rfl y
        obtain ⟨rfl, hx⟩ := y
        have hi3 : i < t.sg.length := by omega
        obtain rfl : xs[i] = x := Option.some.inj ((List.getElem?_eq_getElem hi).symm.trans hx)
        have gi := (cp.t.q.up (eA.trans g1)).get i hi (by rw [List.length_map]; exact hi3)
        rw [List.getElem_map] at gi
        obtain ⟨Ts, v2, v3, ex, hTs, d2, d3⟩ := sg_tup gi
        rw [ex]
        have hs := ok.t.sg _ (List.getElem_mem hi3)
        have tk : t.sg.take (i + 1) = t.sg.take i ++ [t.sg[i]] := (List.take_append_getElem hi3).symm
        walk_at "rd"
        refine ⟨Ts, _, v2, v3, rfl, hTs, d2, d3, hs, ?_⟩
        refine lc_put (by omega) hD g1 g2 hl2 fun H5 _ _ => ?_
        rw [tk, List.map_append, List.map_append]
        rfl
      rintro acc r0 H3 hr0 t3 f3 rfl
      rw [hxl, List.take_length] at f3
      have eB := eA.trans t3
      have h2' := t3 _ _ h2
      have h3' := t3 _ _ h3
      have h4' := t3 _ _ h4
      clear h1 h2 h3 h4 eA t3
      walk_at "rd"
      refine lcW (walk_list (xs := t.fi.map V.str)) (fun i acc _ => acc = ((t.fi.take i).map fun z => Str.ofString "first " ++ z).map V.str) rfl (fun _ e => sqL (e _ _ h2')) (fun _ _ => rfl) ?_ ?_
      · rintro i x acc Dl G1 G2 hi hD g1 g2 hl2 rfl y
        obtain ⟨rfl, hx⟩ := y
        have hi2 : i < t.fi.length := by rwa [List.length_map] at hi
        obtain rfl : V.str t.fi[i] = x := by
          have hx : (t.fi.map V.str)[i]? = some x := hx
          rw [List.getElem?_map, List.getElem?_eq_getElem hi2] at hx
          exact Option.some.inj hx
        have hz := cp.t.k3 _ (List.mem_append_left _ (List.getElem_mem hi2))
        have hk := cp.t.k1
        have hp : (Str.ofString "first ").length ≤ 8 := by decide +kernel
        have tk : t.fi.take (i + 1) = t.fi.take i ++ [t.fi[i]] := (List.take_append_getElem hi2).symm
        walk_at "rd"
        refine lc_put (by omega) hD g1 g2 hl2 fun H5 _ _ => ?_
        rw [tk, List.map_append, List.map_append]
        rfl
      rintro acc r1 H4 hr1 t4 f4 rfl
      rw [List.length_map, List.take_length] at f4
      have eC := eB.trans t4
      have f3' := t4 _ _ f3
      have h3a := t4 _ _ h3'
      have h4a := t4 _ _ h4'
      clear h2' h3' h4' eB t4 f3
      walk_at "rd"
      intro r2 H5 hr2 t5 f5
      have eD := eC.trans t5
      have h3b := t5 _ _ h3a
      have h4b := t5 _ _ h4a
      clear h3a h4a eC t5 f3' f4
      walk_at "rd"
      refine lcW (walk_list (xs := t.pa.map V.str)) (fun i acc _ => acc = ((t.pa.take i).map fun z => Str.ofString "pair " ++ z).map V.str) rfl (fun _ e => sqL (e _ _ h3b)) (fun _ _ => rfl) ?_ ?_
      · rintro i x acc Dl G1 G2 hi hD g1 g2 hl2 rfl y
        obtain ⟨rfl, hx⟩ := y
        have hi2 : i < t.pa.length := by rwa [List.length_map] at hi
        obtain rfl : V.str t.pa[i] = x := by
          have hx : (t.pa.map V.str)[i]? = some x := hx
          rw [List.getElem?_map, List.getElem?_eq_getElem hi2] at hx
          exact Option.some.inj hx
        have hz := cp.t.k3 _ (List.mem_append_right _ (List.getElem_mem hi2))
        have hk := cp.t.k2
        have hp : (Str.ofString "pair ").length ≤ 8 := by decide +kernel
        have tk : t.pa.take (i + 1) = t.pa.take i ++ [t.pa[i]] := (List.take_append_getElem hi2).symm
        walk_at "rd"
        refine lc_put (by omega) hD g1 g2 hl2 fun H5 _ _ => ?_
        rw [tk, List.map_append, List.map_append]
        rfl
      rintro acc r3 H6 hr3 t6 f6 rfl
      rw [List.length_map, List.take_length] at f6
      have eE := eD.trans t6
      have f5' := t6 _ _ f5
      have h4c := t6 _ _ h4b
      clear h3b h4b eD t6 f5
      walk_at "rd"
      intro r4 H7 hr4 t7 f7
      have eF := eE.trans t7
      have h4d := t7 _ _ h4c
      have lo60 : ((t.lo : Nat) : Int).natAbs.log2 < 1920 := log_of (by rw [Int.natAbs_natCast]; have := ok.t.l2; omega)
      have lg : (Str.ofString "longest ").length = 8 := by decide +kernel
      have lz : (Str.ofString (toString ((t.lo : Nat) : Int))).length ≤ 61 := by
        rw [int_S']
        exact int_len (by rw [Int.natAbs_natCast]; have := ok.t.l2; omega)
      clear h4c eE t7 f5' f6
      walk_at "rd"
      intro b1 H8 m1 t8 g8
      have eG := eF.trans t8
      have h4e := t8 _ _ h4d
      have g7 := t8 _ _ f7
      have el : Str.empty ++ Str.ofString "longest " ++ Str.ofString (toString ((t.lo : Nat) : Int)) = longS t.lo := by
        unfold longS
        rw [show Str.empty ++ Str.ofString "longest " = Str.ofString "longest " from ext_tl (by rw [tl_append]; rfl)]
      rw [el] at g8
      clear h4d eF t8 f7
      walk_at "rd"
      intro r5 H9 hr5 t9 f9
      have eH := eG.trans t9
      have h4f := t9 _ _ h4e
      clear h4e eG t9 g8 g7
      walk_at "rd"
      refine lcW (walk_list (xs := ys)) (fun i acc _ => acc = ((ws.take i).map thingS).map V.str) rfl (fun _ e => sqL (e _ _ h4f)) (fun _ _ => rfl) ?_ ?_
      · rintro i x acc Dl G1 G2 hi hD g1 g2 hl2 rfl y
        obtain ⟨rfl, hx⟩ := y
        have hi2 : i < ws.length := by omega
        obtain rfl : ys[i] = x := Option.some.inj ((List.getElem?_eq_getElem hi).symm.trans hx)
        have gi := (cp.d.up (eH.trans g1)).get i hi (by rw [len_wsD]; exact hi2)
        have e0 : (wsD ws)[i]'(by rw [len_wsD]; exact hi2) = wantD ws[i] := List.getElem_map wantD
        rw [e0] at gi
        obtain ⟨Tw, ex, hTw⟩ := want_tup gi
        rw [ex]
        have hnm := nameOk_len (ok.w.nm _ (List.getElem_mem hi2))
        have hct := ok.w.ct _ (List.getElem_mem hi2)
        have tk : ws.take (i + 1) = ws.take i ++ [ws[i]] := (List.take_append_getElem hi2).symm
        generalize ws[i] = ww at hnm hct tk hTw ex gi e0
        have lt1 : (Str.ofString "thing ").length = 6 := by decide +kernel
        have lt2 : (Str.ofString " ").length = 1 := by decide +kernel
        have lt3 : (Str.ofString (toString ((ww.2 : Nat) : Int))).length ≤ 61 := by
          rw [int_S']
          exact int_len (by rw [Int.natAbs_natCast]; omega)
        have ct60 : ((ww.2 : Nat) : Int).natAbs.log2 < 1920 := log_of (by rw [Int.natAbs_natCast]; omega)
        walk_at "rd"
        refine lc_put (by omega) hD g1 g2 hl2 fun H5 _ _ => ?_
        rw [tk, List.map_append, List.map_append, show List.map V.str (List.map thingS [ww]) = [V.str (thingS ww)] from rfl]
        unfold thingS
        rw [show Str.empty ++ Str.ofString "thing " = Str.ofString "thing " from ext_tl (by rw [tl_append]; rfl)]
      rintro acc lw H10 hlw t10 gw rfl
      rw [hyl, List.take_length] at gw
      have f9' := t10 _ _ f9
      have eI := eH.trans t10
      clear h4f eH t10 f9
      have lr : ∀ z ∈ rowsS t ws bo, z.length ≤ 500 := rowsS_len cp ok
      have lrl : (rowsS t ws bo).length ≤ 300 := rowsS_many cp ok
      walk_at "rd"
      intro r6 H11 hr6 t11 f11
      have er : ((t.sg.map signS ++ (t.fi.map fun z => Str.ofString "first " ++ z) ++ (t.pa.map fun z => Str.ofString "pair " ++ z) ++ ([longS t.lo] ++ ws.map thingS)).map V.str) = List.map V.str (List.map signS t.sg) ++ List.map V.str (List.map (fun z => Str.ofString "first " ++ z) t.fi) ++ List.map V.str (List.map (fun z => Str.ofString "pair " ++ z) t.pa) ++ [V.str (longS t.lo)] ++ List.map V.str (List.map thingS ws) := by
        simp only [List.map_append, List.map_cons, List.map_nil, List.append_assoc]
      rw [← er] at f11
      have eJ := eI.trans t11
      clear er gw f9' eI t11
      walk_at "rd"
      refine r_cut (fun σ' H' => ∃ q4, σ'[8]? = some (some (.ref q4)) ∧ Same H H' ∧ H' q4 = some (.lst ((rowsS t ws bo).map V.str))) ?_ ?_
      · walk_at "rd"
        rcases cp.b with ⟨rfl, rfl⟩ | ⟨o, bs, rfl, rfl, ho⟩
        · walk_at "rd"
          refine ⟨r6, rfl, eJ, ?_⟩
          rw [f11]
          unfold rowsS bookS
          rw [List.append_nil]
        · have ho' := eJ _ _ ho
          obtain ⟨k1, k2⟩ := ok.b bs rfl
          walk_at "rd"
          refine lcW (walk_list (xs := bs.map V.str)) (fun i acc _ => acc = ((bs.take i).map fun z => Str.ofString "word " ++ z).map V.str) rfl (fun _ e => sqL (e _ _ ho')) (fun _ _ => rfl) ?_ ?_
          · rintro i x acc Dl G1 G2 hi hD g1 g2 hl2 rfl y
            obtain ⟨rfl, hx⟩ := y
            have hi2 : i < bs.length := by rwa [List.length_map] at hi
            obtain rfl : V.str bs[i] = x := by
              have hx : (bs.map V.str)[i]? = some x := hx
              rw [List.getElem?_map, List.getElem?_eq_getElem hi2] at hx
              exact Option.some.inj hx
            have hz := word_len (k2 _ (List.getElem_mem hi2))
            have hp : (Str.ofString "word ").length ≤ 8 := by decide +kernel
            have tk : bs.take (i + 1) = bs.take i ++ [bs[i]] := (List.take_append_getElem hi2).symm
            walk_at "rd"
            refine lc_put (by omega) hD g1 g2 hl2 fun H5 _ _ => ?_
            rw [tk, List.map_append, List.map_append]
            rfl
          rintro acc lb G1 hlb g1 gb rfl
          rw [List.length_map, List.take_length] at gb
          have f11' := g1 _ _ f11
          have eK := eJ.trans g1
          clear g1
          walk_at "rd"
          intro q4 H12 m4 t12 r12
          walk_at "rd"
          refine ⟨q4, rfl, eK.trans t12, ?_⟩
          rw [r12]
          unfold rowsS bookS
          rw [List.map_append (l₂ := List.map _ bs)]
      rintro σ' H12 ⟨q4, hs, e12, f12⟩
      walk_at "rd"
      refine ⟨_, hs, ?_⟩
      walk_at "rd"
      refine ⟨Str.ofString "\n", q4, rowsS t ws bo, rfl, rfl, .inl (sqL f12), ?_, ?_⟩
      · have := sum_len (rowsS t ws bo) lr
        have e1 : (Str.ofString "\n").length = 1 := by decide +kernel
        rw [e1]
        omega
      · rw [show Str.ofString "\n" = S [10] by decide +kernel]
        exact q H12 e12
end
end My

namespace My
open PySem PySem.Spec PyProof.Rows L2 Z M SX TL
section
variable {P : Program} {w : World} {K : PySem.W.Frag} {mg : Str → Option Value} {base : Heap}
/-! ### the reader's mathematics -/
structure RS where
  sg : List Sg
  fi : List Str
  pa : List Str
  lo : Option Nat
  ws : List (Str × Nat)
  bk : List Str
def RS.nil : RS := ⟨[], [], [], none, [], []⟩
def priceIn (l : List Nat) : Option (Nat × Nat) := match fracIn l 9 with
  | some (n, d) => if 0 < n then some (n.toNat, d) else none
  | none => none
def RS.ls (s : RS) : List Nat := s.sg.map Sg.c
def takeSign (s : RS) : List (List Nat) → Option RS
  | [u, p, q] => if s.fi = [] ∧ s.pa = [] ∧ s.lo = none then (match u with
    | [c] => if s.sg.length ≠ 6 ∧ low c = true ∧ c ∉ s.ls then (match priceIn p with
      | some a => if priceIn q = none ∧ q ≠ [45] then none else some { s with sg := s.sg ++ [⟨c, a, priceIn q⟩] }
      | none => none) else none
    | _ => none) else none
  | _ => none
def openOk (s : RS) (n : Nat) : List (List Nat) → Bool
  | [p] => decide (2 ≤ s.sg.length) && decide (s.lo = none) && (decide (p.length = n) && p.all fun c => decide (c ∈ s.ls))
  | _ => false
def hdL (ps : List (List Nat)) : List Nat := ps.headD []
def takeFirst (s : RS) (ps : List (List Nat)) : Option RS := if openOk s 1 ps = true ∧ s.pa = [] ∧ S (hdL ps) ∉ s.fi then some { s with fi := s.fi ++ [S (hdL ps)] } else none
def takePair (s : RS) (ps : List (List Nat)) : Option RS := if openOk s 2 ps = true ∧ S (hdL ps) ∉ s.pa then some { s with pa := s.pa ++ [S (hdL ps)] } else none
def takeLong (s : RS) : List (List Nat) → Option RS
  | [p] => if 2 ≤ s.sg.length ∧ s.lo = none then (match wholeIn p 1 with
    | some n => if 1 ≤ n ∧ n ≤ 8 then some { s with lo := some n } else none
    | none => none) else none
  | _ => none
def takeThing (s : RS) : List (List Nat) → Option RS
  | [a, b] => if s.lo ≠ none ∧ s.bk = [] ∧ s.ws.length ≠ 20 then (match wholeIn b 10 with
    | some n => if n ≤ 1000000000 ∧ nameOk (S a) = true ∧ S a ∉ s.ws.map (·.1) then some { s with ws := s.ws ++ [(S a, n)] } else none
    | none => none) else none
  | _ => none
def takeWord (s : RS) : List (List Nat) → Option RS
  | [p] => if s.bk.length < s.ws.length ∧ nameOk (S p) = true then some { s with bk := s.bk ++ [S p] } else none
  | _ => none
abbrev spW (l : List Nat) : List (List Nat) := spl [32] 0 [] l
abbrev spN (l : List Nat) : List (List Nat) := spl [10] 0 [] l
def cd (z : Str) : List Nat := tl z
def takeBy (s : RS) (k : List Nat) (ps : List (List Nat)) : Option RS :=
  if S k = Str.ofString "sign" then takeSign s ps else if S k = Str.ofString "first" then takeFirst s ps else if S k = Str.ofString "pair" then takePair s ps else if S k = Str.ofString "longest" then takeLong s ps
  else if S k = Str.ofString "thing" then takeThing s ps else if S k = Str.ofString "word" then takeWord s ps else none
def takeRow (s : RS) (row : List Nat) : Option RS := takeBy s ((spW row).headD []) (spW row).tail
def readRows (s : RS) (i : Nat) : List (List Nat) → Nat ⊕ RS
  | [] => .inr s
  | r :: rs => match takeRow s r with
    | none => .inl i
    | some s' => readRows s' (i + 1) rs
def lacks (s : RS) : Bool := decide (s.ws = []) || !(decide (s.bk.length = 0) || decide (s.bk.length = s.ws.length))
structure RsK (n : Nat) (s : RS) : Prop where
  k1 : s.sg.length ≤ 6
  k2 : s.fi.length ≤ n
  k3 : s.pa.length ≤ n
  k4 : s.ws.length ≤ 20
  k5 : s.bk.length ≤ 20
  k6 : ∀ c ∈ s.ls, low c = true
  k7 : ∀ z ∈ s.fi ++ s.pa, PyData.strOk z = true
  k8 : ∀ z ∈ s.bk, nameOk z = true
  k9 : ∀ w ∈ s.ws, nameOk w.1 = true
theorem RsK.nil : RsK 0 RS.nil := ⟨by decide, by decide, by decide, by decide, by decide, (fun _ m => absurd m List.not_mem_nil), (fun _ m => absurd m List.not_mem_nil), (fun _ m => absurd m List.not_mem_nil), (fun _ m => absurd m List.not_mem_nil)⟩
theorem RsK.up {n : Nat} {s : RS} (h : RsK n s) : RsK (n + 1) s := ⟨h.k1, Nat.le_succ_of_le h.k2, Nat.le_succ_of_le h.k3, h.k4, h.k5, h.k6, h.k7, h.k8, h.k9⟩
theorem takeSign_k {n : Nat} {s s' : RS} {ps : List (List Nat)} (h : RsK n s) (e : takeSign s ps = some s') : RsK (n + 1) s' := by
  unfold takeSign at e
  repeat' (split at e)
  all_goals first | (cases e; done) | skip
  all_goals
    cases e
    rename_i h2 _ _ _ _
    have := h.up
    exact ⟨by show (s.sg ++ [_]).length ≤ 6; rw [List.length_append, List.length_singleton]; have := h.k1; omega, this.k2, this.k3, this.k4, this.k5, fun c hc => by
      have hc : c ∈ (s.sg ++ [_]).map Sg.c := hc
      rw [List.map_append] at hc
      rcases List.mem_append.mp hc with hc | hc
      · exact h.k6 c hc
      · rw [List.mem_singleton.mp hc]
        exact h2.2.1, h.k7, h.k8, h.k9⟩
theorem open_str {n m : Nat} {s : RS} {ps : List (List Nat)} (h : RsK n s) (e : openOk s m ps = true) : PyData.strOk (S (hdL ps)) = true := by
  match ps, e with
  | [p], e =>
    have e : (decide (2 ≤ s.sg.length) && decide (s.lo = none) && (decide (p.length = m) && p.all fun c => decide (c ∈ s.ls))) = true := e
    have e2 := (Bool.and_eq_true_iff.mp (Bool.and_eq_true_iff.mp e).2).2
    exact strOk_low (List.all_eq_true.mpr fun c hc => h.k6 c (of_decide_eq_true (List.all_eq_true.mp e2 c hc)))
theorem takeFirst_k {n : Nat} {s s' : RS} {ps : List (List Nat)} (h : RsK n s) (e : takeFirst s ps = some s') : RsK (n + 1) s' := by
  unfold takeFirst at e
  split at e
  · rename_i hh
    cases e
    exact ⟨h.k1, by show (s.fi ++ [_]).length ≤ n + 1; rw [List.length_append, List.length_singleton]; have := h.k2; omega, h.up.k3, h.k4, h.k5, h.k6, fun z hz => by
      have hz : z ∈ (s.fi ++ [S (hdL ps)]) ++ s.pa := hz
      simp only [List.mem_append, List.mem_singleton] at hz
      rcases hz with (hz | rfl) | hz
      · exact h.k7 z (List.mem_append_left _ hz)
      · exact open_str h hh.1
      · exact h.k7 z (List.mem_append_right _ hz), h.k8, h.k9⟩
  · cases e
theorem takePair_k {n : Nat} {s s' : RS} {ps : List (List Nat)} (h : RsK n s) (e : takePair s ps = some s') : RsK (n + 1) s' := by
  unfold takePair at e
  split at e
  · rename_i hh
    cases e
    exact ⟨h.k1, h.up.k2, by show (s.pa ++ [_]).length ≤ n + 1; rw [List.length_append, List.length_singleton]; have := h.k3; omega, h.k4, h.k5, h.k6, fun z hz => by
      have hz : z ∈ s.fi ++ (s.pa ++ [S (hdL ps)]) := hz
      simp only [List.mem_append, List.mem_singleton] at hz
      rcases hz with hz | (hz | rfl)
      · exact h.k7 z (List.mem_append_left _ hz)
      · exact h.k7 z (List.mem_append_right _ hz)
      · exact open_str h hh.1, h.k8, h.k9⟩
  · cases e
theorem takeLong_k {n : Nat} {s s' : RS} {ps : List (List Nat)} (h : RsK n s) (e : takeLong s ps = some s') : RsK (n + 1) s' := by
  unfold takeLong at e
  repeat' (split at e)
  all_goals first | (cases e; done) | skip
  all_goals
    cases e
    exact ⟨h.k1, h.up.k2, h.up.k3, h.k4, h.k5, h.k6, h.k7, h.k8, h.k9⟩
theorem takeThing_k {n : Nat} {s s' : RS} {ps : List (List Nat)} (h : RsK n s) (e : takeThing s ps = some s') : RsK (n + 1) s' := by
  unfold takeThing at e
  repeat' (split at e)
  all_goals first | (cases e; done) | skip
  all_goals
    cases e
    rename_i h2 _ _ h3
    exact ⟨h.k1, h.up.k2, h.up.k3, by show (s.ws ++ [_]).length ≤ 20; rw [List.length_append, List.length_singleton]; have := h.k4; omega, h.k5, h.k6, h.k7, h.k8, fun w hw => by
      have hw : w ∈ s.ws ++ [_] := hw
      rcases List.mem_append.mp hw with hw | hw
      · exact h.k9 w hw
      · rw [List.mem_singleton.mp hw]
        exact h3.2.1⟩
theorem takeWord_k {n : Nat} {s s' : RS} {ps : List (List Nat)} (h : RsK n s) (e : takeWord s ps = some s') : RsK (n + 1) s' := by
  unfold takeWord at e
  repeat' (split at e)
  all_goals first | (cases e; done) | skip
  all_goals
    cases e
    rename_i h2
    exact ⟨h.k1, h.up.k2, h.up.k3, h.k4, by show (s.bk ++ [_]).length ≤ 20; rw [List.length_append, List.length_singleton]; have := h.k4; omega, h.k6, h.k7, fun z hz => by
      have hz : z ∈ s.bk ++ [_] := hz
      rcases List.mem_append.mp hz with hz | hz
      · exact h.k8 z hz
      · rw [List.mem_singleton.mp hz]
        exact h2.2, h.k9⟩
theorem takeRow_k {n : Nat} {s s' : RS} {r : List Nat} (h : RsK n s) (e : takeRow s r = some s') : RsK (n + 1) s' := by
  unfold takeRow takeBy at e
  split at e
  · exact takeSign_k h e
  split at e
  · exact takeFirst_k h e
  split at e
  · exact takePair_k h e
  split at e
  · exact takeLong_k h e
  split at e
  · exact takeThing_k h e
  split at e
  · exact takeWord_k h e
  · cases e
end
end My

namespace My
open PySem PySem.Spec PyProof.Rows L2 Z M SX TL
section
variable {P : Program} {w : World} {K : PySem.W.Frag} {mg : Str → Option Value} {base : Heap}
def oI : Option Nat → V
  | none => .non
  | some n => .int n
theorem all_map (l : List Nat) (p : Nat → Bool) : (l.map p).all id = l.all p := by
  rw [List.all_map]
  rfl
def sp_whole (K : PySem.W.Frag) : Sp := fun vs H Q _ => ∃ (l : List Nat) (m : Nat), vs = [.str (S l), .int m] ∧ m ≤ 640 ∧ l.length ≤ 100000 ∧ ∀ H', Same H H' → Q (oI (wholeIn l m)) H'
theorem ok_whole_in (T : Txt K mg) : Z.C0 P w K mg base 1 "whole_in" (sp_whole K) := by
  refine T.d_whole_in.c0 sc_whole_in (fun vs H Q E h => ?_) (Z.bd0 fun _ _ _ _ _ _ us hl => match us, hl with | [_, _], _ => rfl) (fun f cdv A outer s H vs Q E hr h => ⟨_, (pss_cons (ps_if (PW.pt (pw_or (pt_not (pt_chain op_leI op_leI pe_int (pe_callB (k_len K) rfl T.b_len (by decide +kernel) (pa_cons (pv 0) pa_nil)) (pv 1))) (pw_or1 (PW.pt (pw_and (pt_cmpR op_gtI (pe_callB (k_len K) rfl T.b_len (by decide +kernel) (pa_cons (pv 0) pa_nil)) pe_int (nomark _)) (pw_and1 (pt_cmpR (k_eqP K hr.units) (pe_ix (k_ix K) (pv 0) pe_int (fun _ _ => rfl)) pe_str (nomark _))))))))
  (pss_one (ps_ret pe_non)) pss_nil)
  (pss_cons (ps_if (pt_not (pt_val (pe_callB (k_all K rfl) rfl T.b_all (by decide +kernel) (pa_cons (pe_lc (own := [("sign", 2)]) rfl sc_whole_in.nd (pi_str (pv 0)) (blkOk_by (N := ["word", "most", "sign"]) (sc := defScope s_whole_in) (by decide +kernel)) (fun _ _ _ _ _ => (pg_name (i := 2) sc_whole_in.nd rfl (Or.inl rfl))) (fun _ _ _ _ _ => pts_nil) (fun _ _ _ _ _ => (pe_cmpR (k_inP K) (pv 2) (C8.pe_gc rfl T.c_FIGURES) (by rfl)))) pa_nil))))
  (pss_one (ps_ret pe_non)) pss_nil)
  (pss_one (ps_ret (pe_callTy call_intP rfl T.b_int (by decide +kernel) (pa_cons (pv 0) pa_nil)))))), ?_⟩)
  · obtain ⟨l, m, rfl, _⟩ := h
    rfl
  · obtain ⟨l, m, rfl, hm, hl, q⟩ := h
    rw [st_whole_in]
    walk_at "st"
    have el := M.S_len l
    have no : ∀ H', Same H H' → ¬ (1 ≤ l.length ∧ l.length ≤ m ∧ ¬ (1 < l.length ∧ l.head? = some 48) ∧ l.all digit = true) → Q .non H' := fun H' e h => by
      have := q H' e
      unfold wholeIn at this
      rw [if_neg h] at this
      exact this
    -- the rest, once the two first tests are passed
    have rest : ∀ (hh : 1 ≤ l.length ∧ l.length ≤ m ∧ ¬ (1 < l.length ∧ l.head? = some 48)), tSeq (tIfS (tNot (tB (tCB (rAll K) (tCons (tLc (iStr (tVar 0)) (gName 2) tYes (tOp (rInP K false) (tVar 2) (tC (V.str (Str.ofString "0123456789")))) [2]) tNil)))) (tRet (tC V.non)) tNext)
        (tRet (tCB cInt (tCons (tVar 0) tNil))) { nx := fun _ H' => Q V.non H', rt := Q } [some (V.str (S l)), some (V.int m), none] H := by
      intro hh
      walk_at "rd"
      refine lcW walk_str (fun i acc _ => acc = ((l.take i).map digit).map V.bl) rfl (fun _ _ => trivial) (fun _ _ => rfl) ?_ ?_
      · rintro i x acc Dl H1 _ hi hD e1 e2 hl2 rfl ⟨rfl, c, hc, rfl⟩
        walk_at "rd"
        rw [fig_mem]
        have hc2 : l[i]? = some c := by simpa [S] using hc
        refine lc_put (by have := (List.getElem?_eq_some_iff.mp hc2).1; omega) hD e1 e2 hl2 fun H5 _ _ => ?_
        rw [List.take_add_one, hc2]
        simp
      · rintro acc Dl H1 hD e1 e2 rfl
        have en : (S l).cps.size = l.length := by simp [S]
        rw [en, List.take_length] at e2
        walk_at "rd"
        refine r_all (sqL e2) ?_
        rw [all_map]
        walk_at "rd"
        cases hd : l.all digit with
        | false =>
          walk_at "rd"
          exact no H1 e1 (fun z => by rw [hd] at z; exact absurd z.2.2.2 (by decide))
        | true =>
          walk_at "rd"
          have en2 : PySem.intText? (S l) = some ((NumText.digitsVal l : Nat) : Int) := int_S (by
            rw [← hd]
            congr 1
            funext c
            unfold digit
            simp) (by
            intro z
            rw [z] at hh
            simp at hh) (by omega)
          refine r_intS en2 ?_ (by omega)
          have := q H1 e1
          unfold wholeIn at this
          rw [if_pos ⟨hh.1, hh.2.1, hh.2.2, hd⟩] at this
          exact this
    walk_at "rd"
    refine r_ite (fun h1 => ?_) (fun h1 => ?_)
    · walk_at "rd"
      refine r_nite (fun h2 => ?_) (fun h2 => ?_)
      · walk_at "rd"
        exact no H (Same.refl _) (by omega)
      · walk_at "rd"
        refine r_ite (fun h3 => ?_) (fun h3 => ?_)
        · walk_at "rd"
          obtain ⟨c, r, rfl⟩ : ∃ c r, l = c :: r := by
            cases l with
            | nil => simp at el; omega
            | cons c r => exact ⟨c, r, rfl⟩
          refine r_ixS (c := c) (szl (by omega)) (atI_nat (j := 0) rfl) ?_
          walk_at "rd"
          refine r_ite (fun h4 => ?_) (fun h4 => ?_)
          · walk_at "rd"
            refine no H (Same.refl _) (fun z => z.2.2.1 ⟨by omega, ?_⟩)
            have : S [c] = S [48] := h4.trans (by decide +kernel)
            exact congrArg some (List.cons.inj (SX.S_inj this)).1
          · refine rest ⟨by omega, by omega, fun z => h4 ?_⟩
            have : c = 48 := Option.some.inj z.2
            rw [this]
            decide +kernel
        · exact rest ⟨by omega, by omega, fun z => by omega⟩
    · walk_at "rd"
      exact no H (Same.refl _) (by omega)
/-! ### fraction_in -/
theorem val_fold : ∀ (l : List Nat) (a : Nat), l.all digit = true → l.foldl (fun acc c => acc * 10 + (c - 48)) a < (a + 1) * 10 ^ l.length
  | [], a, _ => by simp
  | c :: r, a, h => by
    rw [List.all_cons, Bool.and_eq_true] at h
    have hc : 48 ≤ c ∧ c ≤ 57 := of_decide_eq_true h.1
    have ih := val_fold r (a * 10 + (c - 48)) h.2
    rw [List.foldl_cons, List.length_cons, Nat.pow_succ]
    refine Nat.lt_of_lt_of_le ih ?_
    rw [Nat.mul_comm (10 ^ r.length) 10, ← Nat.mul_assoc]
    exact Nat.mul_le_mul_right _ (by omega)
theorem whole_lt {l : List Nat} {m n : Nat} (h : wholeIn l m = some n) (hm : m ≤ 60) : n < 10 ^ 60 := by
  unfold wholeIn at h
  split at h
  · rename_i c
    have e : NumText.digitsVal l = n := Option.some.inj h
    have := val_fold l 0 c.2.2.2
    rw [Nat.zero_add, Nat.one_mul] at this
    rw [← e]
    exact Nat.lt_of_lt_of_le this (Nat.pow_le_pow_right (by decide) (by omega))
  · cases h
theorem cut_1 (l : List Nat) : cutS (S l) none (some 1) = S (l.take 1) := by
  unfold cutS
  rw [show HT.sIx (S l).length (S l).length (some 1) = min 1 (S l).length from HT.sIx_nat _ _ 1, HT.sIx_none, M.S_len]
  refine ext_tl ?_
  show List.take (min 1 l.length - 0) (List.drop 0 l) = List.take 1 l
  rw [List.drop_zero]
  cases l with
  | nil => rfl
  | cons a r =>
    rw [show min 1 (a :: r).length - 0 = 1 by rw [List.length_cons]; omega]
theorem cut_2 (l : List Nat) : cutS (S l) (some 1) none = S (l.drop 1) := by
  unfold cutS
  rw [show HT.sIx (S l).length 0 (some 1) = min 1 (S l).length from HT.sIx_nat _ _ 1, HT.sIx_none, M.S_len]
  refine ext_tl ?_
  show List.take (l.length - min 1 l.length) (List.drop (min 1 l.length) l) = List.drop 1 l
  cases l with
  | nil => rfl
  | cons a r =>
    rw [show min 1 (a :: r).length = 1 by rw [List.length_cons]; omega]
    exact List.take_of_length_le (by rw [List.length_drop]; exact Nat.le_refl _)
theorem neg_test (l : List Nat) : (S (l.take 1) = Str.ofString "-") ↔ isNeg l = true := by
  rw [show Str.ofString "-" = S [45] by decide +kernel]
  unfold isNeg
  rw [decide_eq_true_eq]
  cases l with
  | nil =>
    constructor
    · intro h
      have := SX.S_inj h
      cases this
    · intro h
      cases h
  | cons a r =>
    constructor
    · intro h
      have := SX.S_inj h
      exact congrArg some (List.cons.inj this).1
    · intro h
      have : a = 45 := Option.some.inj h
      rw [this]
      rfl
theorem spl_len : ∀ (L acc : List Nat), (spl [47] 0 acc L).length ≤ L.length + 1
  | [], acc => by rw [spl_nil]; simp
  | c :: r, acc => by
    cases e : pre [47] (c :: r) with
    | true =>
      rw [spl_hit e, List.length_cons, List.length_cons]
      have := spl_len r []
      exact Nat.succ_le_succ this
    | false =>
      rw [spl_miss e, List.length_cons]
      have := spl_len r (acc ++ [c])
      omega
theorem split_S (l : List Nat) : Txt.split (S l) (Str.ofString "/") = (spl [47] 0 [] l).map S := by
  have e : tl (Str.ofString "/") = [47] := by decide +kernel
  have h := split_spl (S l) (Str.ofString "/") (by rw [e]; simp) (kind_ok (by decide +kernel))
  rw [e] at h
  refine map_tl_inj ?_
  rw [h, List.map_map]
  have : (tl ∘ S) = id := rfl
  rw [this, List.map_id]
theorem spl_part_len : ∀ (L acc : List Nat) p, p ∈ spl [47] 0 acc L → p.length ≤ acc.length + L.length
  | [], acc, p, h => by
    rw [spl_nil, List.mem_singleton] at h
    rw [h]
    omega
  | c :: r, acc, p, h => by
    cases e : pre [47] (c :: r) with
    | true =>
      rw [spl_hit e] at h
      rcases List.mem_cons.mp h with h | h
      · rw [h]
        omega
      · have := spl_part_len r [] p h
        rw [List.length_nil] at this
        rw [List.length_cons]
        omega
    | false =>
      rw [spl_miss e] at h
      have := spl_part_len r (acc ++ [c]) p h
      rw [List.length_append, List.length_singleton] at this
      rw [List.length_cons]
      omega
theorem figs_len (l : List Nat) : (figs l).length ≤ l.length := by
  unfold figs
  split
  · rw [List.length_tail]
    omega
  · exact Nat.le_refl _
def resQ (r : Option (Int × Nat)) (H : Hp) (Q : VK) : Prop := match r with
  | none => ∀ H', Same H H' → Q .non H'
  | some (n, d) => ∀ p H', H p = none → Same H H' → H' p = some (.tup [.int n, .int d]) → Q (.ref p) H'
def sp_fracin (K : PySem.W.Frag) : Sp := fun vs H Q _ => ∃ (l : List Nat) (m : Nat), vs = [.str (S l), .int m] ∧ m ≤ 60 ∧ l.length ≤ 3000 ∧ resQ (fracIn l m) H Q
theorem spl_ne : ∀ (L acc : List Nat), spl [47] 0 acc L ≠ []
  | [], acc => by rw [spl_nil]; simp
  | c :: r, acc => by
    cases e : pre [47] (c :: r) with
    | true => rw [spl_hit e]; simp
    | false =>
      rw [spl_miss e]
      exact spl_ne r _
theorem inV_non (ns : List (Option Nat)) : inV .non (ns.map oI) = ns.any (·.isNone) := by
  unfold inV
  rw [List.any_map]
  congr 1
  funext x
  cases x <;> rfl
theorem flat_oI (ns : List (Option Nat)) : (ns.map oI).all flatV = true := by
  rw [List.all_map, List.all_eq_true]
  intro x _
  cases x <;> rfl
theorem fracOf_none {neg : Bool} {ns : List (Option Nat)} (h : ns.any (·.isNone) = true) : fracOf neg ns = none := by
  match ns, h with
  | [none], _ => rfl
  | [none, none], _ => rfl
  | [none, some _], _ => rfl
  | [some _, none], _ => rfl
  | a :: b :: _ :: _, _ => cases a <;> cases b <;> rfl
theorem fracOf_long {neg : Bool} {ns : List (Option Nat)} (h : 2 < ns.length) : fracOf neg ns = none := by
  match ns, h with
  | a :: b :: _ :: _, _ => cases a <;> cases b <;> rfl
theorem eqv2 (a b c d : Int) : PyData.eqv (.tuple [.int a, .int b]) (.tuple [.int c, .int d]) = decide (a = c ∧ b = d) := by
  show (a == c && (b == d && true)) = _
  rw [Bool.eq_iff_iff]
  simp
theorem figs_eq (l : List Nat) : (S (figs l) = S l) ↔ isNeg l = false := by
  unfold figs
  cases e : isNeg l with
  | false => simp
  | true =>
    rw [if_pos rfl]
    constructor
    · intro h
      have h := SX.S_inj h
      cases l with
      | nil => cases e
      | cons a r =>
        have := congrArg List.length h
        simp at this
    · intro h
      cases h
theorem fin_frac {D : Ends} {σ0 σ1 σ2 σ3 σ5 : Option V} {p : Addr} {H : Hp} {t : Int} {b : Nat} (hp : H p = some (.tup [.int t, .int b])) (hb : 0 < b) (hb2 : b < 10 ^ 60)
    (q1 : Nat.gcd b t.natAbs = 1 → ∀ H', Same H H' → D.rt (.ref p) H') (q2 : Nat.gcd b t.natAbs ≠ 1 → ∀ H', Same H H' → D.rt .non H') :
    tSeq (tIfS (tTest (tOp (rNeP K) (tCall sp_fraction [] E0 (tCons (tOp (rIx K) (tVar 4) (tC (.int 0))) (tCons (tOp (rIx K) (tVar 4) (tC (.int 1))) tNil))) (tVar 4))) (tRet (tC .non)) tNext) (tRet (tVar 4)) D [σ0, σ1, σ2, σ3, some (.ref p), σ5] H := by
  walk_at "rd"
  refine ⟨t, b, rfl, hb, hb2, fun p3 H3 h3 e3 e4 => ?_⟩
  unfold lowV at e4
  walk_at "rd"
  refine r_neD (d := .tuple [.int (t / (Nat.gcd b t.natAbs : Nat)), .int ((b : Int) / (Nat.gcd b t.natAbs : Nat))]) (e := .tuple [.int t, .int b]) (.tup (sqT e4) (by walk_at "lk")) (by walk_at "lk") ?_ rfl rfl
  rw [eqv2]
  have g0 : 0 < Nat.gcd b t.natAbs := Nat.gcd_pos_of_pos_left _ hb
  walk_at "rd"
  by_cases hg : Nat.gcd b t.natAbs = 1
  · refine r_ndT (by rw [hg]; simp) ?_
    walk_at "rd"
    exact q1 hg H3 (by walk_at "sm")
  · refine r_ndF (fun z => hg ?_) ?_
    · have z2 := z.2
      have e : ((b / Nat.gcd b t.natAbs : Nat) : Int) = b := z2
      have e2 : b / Nat.gcd b t.natAbs = b := by omega
      rcases Nat.lt_or_ge (Nat.gcd b t.natAbs) 2 with h | h
      · omega
      · have := Nat.div_lt_self hb h
        omega
    · walk_at "rd"
      exact q2 hg H3 (by walk_at "sm")
theorem resQ_up {r : Option (Int × Nat)} {H H' : Hp} {Q : VK} (e : Same H H') (q : resQ r H Q) : resQ r H' Q := by
  cases r with
  | none => exact fun H2 e2 => q H2 (e.trans e2)
  | some x => exact fun p H2 hp e2 h => q p H2 (e.free hp) (e.trans e2) h
theorem fin2 {D : Ends} {l : List Nat} {m a b : Nat} {Dl : Addr} {xs : List V} {H : Hp} {σ3 σ5 : Option V} (e5 : H Dl = some (.lst xs)) (h0 : atI xs 0 = some (.int a)) (h1 : atI (xs ++ [.int 1]) 1 = some (.int b)) (hl : xs.length ≤ 2) (hb : 0 < b) (hb2 : b < 10 ^ 60)
    (q : resQ (if Nat.gcd b a = 1 then some (sgn (isNeg l) a, b) else none) H D.rt) :
    tSeq (tAsg (tTup (tCons (tOp (rIx K) (tVar 3) (tC (V.int 0))) (tCons (tOp (rIx K) (tOp (rAddP K) (tVar 3) (tLst (tCons (tC (V.int 1)) tNil))) (tC (V.int 1))) tNil))) (gName 4))
            (Evl.tCut (tIfS (tTest (tOp (rNeP K) (tVar 2) (tVar 0))) (tAsg (tTup (tCons (tOp Z.rSub (tC (V.int 0)) (tOp (rIx K) (tVar 4) (tC (V.int 0)))) (tCons (tOp (rIx K) (tVar 4) (tC (V.int 1))) tNil))) (gName 4)) tNext)
            (tSeq (tIfS (tTest (tOp (rNeP K) (tCall sp_fraction [] E0 (tCons (tOp (rIx K) (tVar 4) (tC (.int 0))) (tCons (tOp (rIx K) (tVar 4) (tC (.int 1))) tNil))) (tVar 4))) (tRet (tC .non)) tNext) (tRet (tVar 4))))
            D [some (V.str (S l)), some (V.int ↑m), some (V.str (S (figs l))), some (V.ref Dl), σ3, σ5] H := by
  walk_at "rd"
  intro p2 H2 hp2 e2 f2
  walk_at "rd"
  intro p3 H3 hp3 e3 f3
  walk_at "rd"
  intro p4 H4 hp4 e4 f4
  have fin : ∀ (p : Addr) (H5 : Hp), H p = none → Same H H5 → H5 p = some (.tup [.int (sgn (isNeg l) a), .int b]) → tSeq (tIfS (tTest (tOp (rNeP K) (tCall sp_fraction [] E0 (tCons (tOp (rIx K) (tVar 4) (tC (.int 0))) (tCons (tOp (rIx K) (tVar 4) (tC (.int 1))) tNil))) (tVar 4))) (tRet (tC .non)) tNext) (tRet (tVar 4))
      D [some (V.str (S l)), some (V.int ↑m), some (V.str (S (figs l))), some (V.ref Dl), some (V.ref p), σ5] H5 := fun p H5 hp e f => by
    have hn : (sgn (isNeg l) a).natAbs = a := by
      unfold sgn
      split <;> omega
    refine fin_frac f hb hb2 (fun hg H' e' => ?_) (fun hg H' e' => ?_)
    · rw [hn] at hg
      rw [if_pos hg] at q
      exact q p H' hp (by walk_at "sm") (by walk_at "lk")
    · rw [hn] at hg
      rw [if_neg hg] at q
      exact q H' (by walk_at "sm")
  walk_at "rd"
  refine r_cut (fun σ' H' => ∃ p, H p = none ∧ Same H H' ∧ H' p = some (.tup [.int (sgn (isNeg l) a), .int b]) ∧ σ' = [some (V.str (S l)), some (V.int ↑m), some (V.str (S (figs l))), some (V.ref Dl), some (V.ref p), σ5]) ?_ ?_
  · walk_at "rd"
    refine r_nite (fun h => ?_) (fun h => ?_)
    · walk_at "rd"
      intro p5 H5 hp5 e5 f5
      walk_at "rd"
      have : isNeg l = true := by
        cases e : isNeg l with
        | true => rfl
        | false => exact absurd ((figs_eq l).mpr e) h
      refine ⟨p5, by walk_at "fn", by walk_at "sm", ?_, rfl⟩
      rw [this]
      have e : sgn true a = 0 - (a : Int) := by
        show -(a : Int) = _
        omega
      rw [e]
      exact f5
    · walk_at "rd"
      have : isNeg l = false := (figs_eq l).mp h
      refine ⟨p4, by walk_at "fn", by walk_at "sm", ?_, rfl⟩
      rw [this]
      exact f4
  · rintro σ' H' ⟨p, hp, e, f, rfl⟩
    exact fin p H' hp e f
theorem ok_fraction_in (T : Txt K mg) : Z.C0 P w K mg base 4 "fraction_in" (sp_fracin K) := by
  refine T.d_fraction_in.c0 sc_fraction_in (fun vs H Q E h => ?_) (Z.bd0 fun _ _ _ _ _ _ us hl => match us, hl with | [_, _], _ => rfl) (fun f cdv A outer s H vs Q E hr h => ⟨_, (pss_cons (ps_set (i := 2) sc_fraction_in.nd rfl (Or.inl rfl) (pv 0))
  (Evl.pss_cut (ps_if (pt_cmpR (k_eqP K hr.units) (pe_slice (k_sl K) (pv 0) po_none (po_some pe_int)) pe_str (nomark _))
  (pss_one (ps_set (i := 2) sc_fraction_in.nd rfl (Or.inl rfl) (pe_slice (k_sl K) (pv 0) (po_some pe_int) po_none))) pss_nil)
  (pss_cons (ps_setLc (i := 3) (own := [("part", 5)]) rfl sc_fraction_in.nd rfl rfl (sw_true rfl rfl rfl (by decide +kernel)) (k_iL K (k_bm K PySem.F.plainAttrs_str PySem.F.slot_str_split PySem.F.type_str_split mt_splitP (pv 2) (pa_cons pe_str pa_nil))) (blkOk_by (N := ["word", "most", "figures", "numbers", "one", "part"]) (sc := defScope s_fraction_in) (by decide +kernel)) (fun _ _ _ _ _ => (pg_name (i := 5) sc_fraction_in.nd rfl (Or.inl rfl))) (fun _ _ _ _ _ => pts_nil) (fun _ _ _ _ _ => (pe_c0 (ok_whole_in T) hr (by decide) rfl (pa_cons (pv 5) (pa_cons (pv 1) pa_nil)))))
  (pss_cons (ps_if (PW.pt (pw_or (pt_cmpR (k_inP K) pe_non (pv 3) (by rfl)) (pw_or1 (pt_cmpR op_gtI (pe_callB (k_len K) rfl T.b_len (by decide +kernel) (pa_cons (pv 3) pa_nil)) pe_int (nomark _)))))
  (pss_one (ps_ret pe_non)) pss_nil)
  (pss_cons (ps_if (PW.pt (pw_or (PW.pt (pw_and (pt_cmpR (k_eqP K hr.units) (pe_callB (k_len K) rfl T.b_len (by decide +kernel) (pa_cons (pv 3) pa_nil)) pe_int (nomark _)) (pw_and1 (pt_cmpR op_ltI (pe_ix (k_ix K) (pv 3) pe_int (fun _ _ => rfl)) pe_int (nomark _))))) (pw_or1 (PW.pt (pw_and (pt_cmpR (k_neP K hr.units) (pv 2) (pv 0) (nomark _)) (pw_and1 (pt_cmpR (k_eqP K hr.units) (pe_ix (k_ix K) (pv 3) pe_int (fun _ _ => rfl)) pe_int (nomark _))))))))
  (pss_one (ps_ret pe_non)) pss_nil)
  (pss_cons (ps_set (i := 4) sc_fraction_in.nd rfl (Or.inl rfl) (pe_tup (pa_cons (pe_ix (k_ix K) (pv 3) pe_int (fun _ _ => rfl)) (pa_cons (pe_ix (k_ix K) (pe_op (k_addP K) (pv 3) (pe_lst (pa_cons pe_int pa_nil))) pe_int (fun _ _ => rfl)) pa_nil))))
  (Evl.pss_cut (ps_if (pt_cmpR (k_neP K hr.units) (pv 2) (pv 0) (nomark _))
  (pss_one (ps_set (i := 4) sc_fraction_in.nd rfl (Or.inl rfl) (pe_tup (pa_cons (pe_op op_subI pe_int (pe_ix (k_ix K) (pv 4) pe_int (fun _ _ => rfl))) (pa_cons (pe_ix (k_ix K) (pv 4) pe_int (fun _ _ => rfl)) pa_nil))))) pss_nil)
  (pss_cons (ps_if (pt_cmpR (k_neP K hr.units) (pe_c0 (ok_fraction T) hr (by decide) rfl (pa_cons (pe_ix (k_ix K) (pv 4) pe_int (fun _ _ => rfl)) (pa_cons (pe_ix (k_ix K) (pv 4) pe_int (fun _ _ => rfl)) pa_nil))) (pv 4) (nomark _))
  (pss_one (ps_ret pe_non)) pss_nil)
  (pss_one (ps_ret (pv 4))))))))))), ?_⟩)
  · obtain ⟨l, m, rfl, _⟩ := h
    rfl
  · obtain ⟨l, m, rfl, hm, hl, q⟩ := h
    rw [st_fraction_in]
    walk_at "st"
    have el := M.S_len l
    walk_at "rd"
    refine r_cut (fun σ' H' => H' = H ∧ σ' = [some (.str (S l)), some (.int m), some (.str (S (figs l))), none, none, none]) ?_ ?_
    · walk_at "rd"
      rw [cut_1]
      refine r_ite (fun h1 => ?_) (fun h1 => ?_)
      · rw [neg_test] at h1
        walk_at "rd"
        rw [cut_2]
        refine ⟨rfl, ?_⟩
        unfold figs
        rw [if_pos h1]
        simp
      · rw [neg_test] at h1
        walk_at "rd"
        refine ⟨rfl, ?_⟩
        unfold figs
        rw [if_neg h1]
    rintro σ' _ ⟨rfl, rfl⟩
    have fl := figs_len l
    have el2 := M.S_len (figs l)
    walk_at "rd"
    rintro p1 H1 hp1 e1 e2
    rw [split_S] at e2
    have sl := spl_len (figs l) []
    walk_at "rd"
    refine lcW (walk_list (xs := ((spl [47] 0 [] (figs l)).map S).map V.str)) (fun i acc _ => acc = (((spl [47] 0 [] (figs l)).take i).map fun p => oI (wholeIn p m))) rfl (fun H' e => by walk_at "lk") (fun _ _ => rfl) ?_ ?_
    · rintro i x acc Dl H2 _ hi hD e3 e4 hl2 rfl ⟨rfl, hx⟩
      obtain ⟨pt, hpt, rfl⟩ : ∃ pt, (spl [47] 0 [] (figs l))[i]? = some pt ∧ x = .str (S pt) := by
        rw [List.getElem?_map, List.getElem?_map] at hx
        cases e : (spl [47] 0 [] (figs l))[i]? with
        | none =>
          rw [e] at hx
          cases hx
        | some pt =>
          rw [e] at hx
          exact ⟨pt, rfl, (Option.some.inj hx).symm⟩
      walk_at "rd"
      have hlp := spl_part_len _ _ _ (List.mem_of_getElem? hpt)
      rw [List.length_nil] at hlp
      refine ⟨pt, m, rfl, by omega, by omega, fun H3 e5 => ?_⟩
      simp only [List.length_map] at hi
      refine lc_put (by omega) hD (by walk_at "sm") (by walk_at "lk") hl2 fun H5 _ _ => ?_
      rw [List.take_add_one, hpt]
      simp
    · rintro acc Dl H2 hD e3 e4 rfl
      rw [List.length_map, List.length_map, List.take_length] at e4
      have e5 : H2 Dl = some (.lst ((numsIn l m).map oI)) := by
        rw [e4]
        unfold numsIn
        rw [List.map_map]
        rfl
      have hne : numsIn l m ≠ [] := fun z => spl_ne _ _ (List.map_eq_nil_iff.mp z)
      have hwl : ∀ n, some n ∈ numsIn l m → n < 10 ^ 60 := fun n hn => by
        obtain ⟨pt, _, e⟩ := List.mem_map.mp hn
        exact whole_lt e hm
      unfold fracIn at q
      revert e5 q hne hwl
      generalize numsIn l m = ns
      intro q e5 hne hwl
      walk_at "rd"
      refine r_inL (sqL e5) ?_ rfl (flat_oI ns)
      rw [inV_non]
      walk_at "rd"
      refine r_bite (fun h1 => ?_) (fun h1 => ?_)
      · walk_at "rd"
        rw [fracOf_none h1] at q
        exact q H2 (by walk_at "sm")
      walk_at "rd"
      refine r_ite (fun h2 => ?_) (fun h2 => ?_)
      · walk_at "rd"
        rw [fracOf_long (by simp only [List.length_map] at h2; omega)] at q
        exact q H2 (by walk_at "sm")
      match ns, hne, h1, h2 with
      | [some a], _, _, _ =>
        have ha := hwl a (by simp)
        replace e5 : H2 Dl = some (.lst [.int a]) := e5
        walk_at "rd"
        refine r_dF (by simp) ?_
        walk_at "rd"
        have q0 : ¬ (isNeg l = true ∧ a = 0) → resQ (if Nat.gcd 1 a = 1 then some (sgn (isNeg l) a, 1) else none) H2 Q := fun z => by
          have e : fracOf (isNeg l) [some a] = some (sgn (isNeg l) a, 1) := if_neg z
          rw [if_pos (Nat.gcd_one_left a), ← e]
          exact resQ_up (by walk_at "sm") q
        refine r_nite (fun h3 => ?_) (fun h3 => ?_)
        · have hneg : isNeg l = true := by
            cases e : isNeg l with
            | true => rfl
            | false => exact absurd ((figs_eq l).mpr e) h3
          walk_at "rd"
          refine r_ite (fun h4 => ?_) (fun h4 => ?_)
          · walk_at "rd"
            have e : fracOf (isNeg l) [some a] = none := if_pos ⟨hneg, by omega⟩
            rw [e] at q
            exact q H2 (by walk_at "sm")
          · exact fin2 e5 rfl rfl (by simp) (by decide) (by decide) (q0 (by omega))
        · have hneg : isNeg l = false := (figs_eq l).mp h3
          exact fin2 e5 rfl rfl (by simp) (by decide) (by decide) (q0 (by rw [hneg]; simp))
      | [some a, some b], _, _, _ =>
        have ha := hwl a (by simp)
        have hb := hwl b (by simp)
        replace e5 : H2 Dl = some (.lst [.int a, .int b]) := e5
        walk_at "rd"
        refine r_dT (by simp) ?_
        walk_at "rd"
        refine r_ite (fun h3 => ?_) (fun h3 => ?_)
        · walk_at "rd"
          have e : fracOf (isNeg l) [some a, some b] = none := if_pos (.inl (by omega))
          rw [e] at q
          exact q H2 (by walk_at "sm")
        have q0 : ¬ (isNeg l = true ∧ a = 0) → resQ (if Nat.gcd b a = 1 then some (sgn (isNeg l) a, b) else none) H2 Q := fun z => by
          have e : fracOf (isNeg l) [some a, some b] = if Nat.gcd b a = 1 then some (sgn (isNeg l) a, b) else none := if_neg (fun z' => z'.elim (by omega) z)
          rw [← e]
          exact resQ_up (by walk_at "sm") q
        walk_at "rd"
        refine r_nite (fun h4 => ?_) (fun h4 => ?_)
        · have hneg : isNeg l = true := by
            cases e : isNeg l with
            | true => rfl
            | false => exact absurd ((figs_eq l).mpr e) h4
          walk_at "rd"
          refine r_ite (fun h5 => ?_) (fun h5 => ?_)
          · walk_at "rd"
            have e : fracOf (isNeg l) [some a, some b] = none := if_pos (.inr ⟨hneg, by omega⟩)
            rw [e] at q
            exact q H2 (by walk_at "sm")
          · exact fin2 e5 rfl rfl (by simp) (by omega) hb (q0 (by omega))
        · have hneg : isNeg l = false := (figs_eq l).mp h4
          exact fin2 e5 rfl rfl (by simp) (by omega) hb (q0 (by rw [hneg]; simp))
      | [none], _, h1, _ => cases h1
      | [none, none], _, h1, _ => cases h1
      | [none, some _], _, h1, _ => cases h1
      | [some _, none], _, h1, _ => cases h1
      | _ :: _ :: _ :: _, _, _, h2 => simp at h2; omega
end
end My

namespace My
open PySem PySem.Spec PyProof.Rows L2 Z M SX TL
local macro_rules | `(tactic| walk_at "rd1") => `(tactic| first
  | ((with_reducible refine Z.r_fldHd ?_); first | ((with_reducible refine Z.r_fldW (dx := ?dx) ?h (Txt.l_CaseRows (by assumption)) (Txt.n_CaseRows_signs (by assumption)) (gl_CaseRows_signs (v0 := ?v0) (v1 := ?v1) (v2 := ?v2) (v3 := ?v3) (v4 := ?v4) (v5 := ?v5) (v6 := ?v6)) ?_); (case h => walk_at "lk")) | ((with_reducible refine Z.r_fldW (dx := ?dx) ?h (Txt.l_CaseRows (by assumption)) (Txt.n_CaseRows_letters (by assumption)) (gl_CaseRows_letters (v0 := ?v0) (v1 := ?v1) (v2 := ?v2) (v3 := ?v3) (v4 := ?v4) (v5 := ?v5) (v6 := ?v6)) ?_); (case h => walk_at "lk")) | ((with_reducible refine Z.r_fldW (dx := ?dx) ?h (Txt.l_CaseRows (by assumption)) (Txt.n_CaseRows_firsts (by assumption)) (gl_CaseRows_firsts (v0 := ?v0) (v1 := ?v1) (v2 := ?v2) (v3 := ?v3) (v4 := ?v4) (v5 := ?v5) (v6 := ?v6)) ?_); (case h => walk_at "lk")) | ((with_reducible refine Z.r_fldW (dx := ?dx) ?h (Txt.l_CaseRows (by assumption)) (Txt.n_CaseRows_pairs (by assumption)) (gl_CaseRows_pairs (v0 := ?v0) (v1 := ?v1) (v2 := ?v2) (v3 := ?v3) (v4 := ?v4) (v5 := ?v5) (v6 := ?v6)) ?_); (case h => walk_at "lk")) | ((with_reducible refine Z.r_fldW (dx := ?dx) ?h (Txt.l_CaseRows (by assumption)) (Txt.n_CaseRows_longest (by assumption)) (gl_CaseRows_longest (v0 := ?v0) (v1 := ?v1) (v2 := ?v2) (v3 := ?v3) (v4 := ?v4) (v5 := ?v5) (v6 := ?v6)) ?_); (case h => walk_at "lk")) | ((with_reducible refine Z.r_fldW (dx := ?dx) ?h (Txt.l_CaseRows (by assumption)) (Txt.n_CaseRows_wants (by assumption)) (gl_CaseRows_wants (v0 := ?v0) (v1 := ?v1) (v2 := ?v2) (v3 := ?v3) (v4 := ?v4) (v5 := ?v5) (v6 := ?v6)) ?_); (case h => walk_at "lk")) | ((with_reducible refine Z.r_fldW (dx := ?dx) ?h (Txt.l_CaseRows (by assumption)) (Txt.n_CaseRows_words (by assumption)) (gl_CaseRows_words (v0 := ?v0) (v1 := ?v1) (v2 := ?v2) (v3 := ?v3) (v4 := ?v4) (v5 := ?v5) (v6 := ?v6)) ?_); (case h => walk_at "lk")))
  | ((with_reducible refine Z.r_setHd ?_); first | ((with_reducible refine Z.r_setW (dx := ?dx) ?h (Txt.l_CaseRows (by assumption)) (Txt.n_CaseRows_signs (by assumption)) ln_CaseRows (pt_CaseRows_signs (v0 := ?v0) (v1 := ?v1) (v2 := ?v2) (v3 := ?v3) (v4 := ?v4) (v5 := ?v5) (v6 := ?v6)) ?_); (case h => walk_at "lk")) | ((with_reducible refine Z.r_setW (dx := ?dx) ?h (Txt.l_CaseRows (by assumption)) (Txt.n_CaseRows_letters (by assumption)) ln_CaseRows (pt_CaseRows_letters (v0 := ?v0) (v1 := ?v1) (v2 := ?v2) (v3 := ?v3) (v4 := ?v4) (v5 := ?v5) (v6 := ?v6)) ?_); (case h => walk_at "lk")) | ((with_reducible refine Z.r_setW (dx := ?dx) ?h (Txt.l_CaseRows (by assumption)) (Txt.n_CaseRows_firsts (by assumption)) ln_CaseRows (pt_CaseRows_firsts (v0 := ?v0) (v1 := ?v1) (v2 := ?v2) (v3 := ?v3) (v4 := ?v4) (v5 := ?v5) (v6 := ?v6)) ?_); (case h => walk_at "lk")) | ((with_reducible refine Z.r_setW (dx := ?dx) ?h (Txt.l_CaseRows (by assumption)) (Txt.n_CaseRows_pairs (by assumption)) ln_CaseRows (pt_CaseRows_pairs (v0 := ?v0) (v1 := ?v1) (v2 := ?v2) (v3 := ?v3) (v4 := ?v4) (v5 := ?v5) (v6 := ?v6)) ?_); (case h => walk_at "lk")) | ((with_reducible refine Z.r_setW (dx := ?dx) ?h (Txt.l_CaseRows (by assumption)) (Txt.n_CaseRows_longest (by assumption)) ln_CaseRows (pt_CaseRows_longest (v0 := ?v0) (v1 := ?v1) (v2 := ?v2) (v3 := ?v3) (v4 := ?v4) (v5 := ?v5) (v6 := ?v6)) ?_); (case h => walk_at "lk")) | ((with_reducible refine Z.r_setW (dx := ?dx) ?h (Txt.l_CaseRows (by assumption)) (Txt.n_CaseRows_wants (by assumption)) ln_CaseRows (pt_CaseRows_wants (v0 := ?v0) (v1 := ?v1) (v2 := ?v2) (v3 := ?v3) (v4 := ?v4) (v5 := ?v5) (v6 := ?v6)) ?_); (case h => walk_at "lk")) | ((with_reducible refine Z.r_setW (dx := ?dx) ?h (Txt.l_CaseRows (by assumption)) (Txt.n_CaseRows_words (by assumption)) ln_CaseRows (pt_CaseRows_words (v0 := ?v0) (v1 := ?v1) (v2 := ?v2) (v3 := ?v3) (v4 := ?v4) (v5 := ?v5) (v6 := ?v6)) ?_); (case h => walk_at "lk")))
  | ((with_reducible refine Z.r_methHd ?_); first | ((with_reducible refine Z.r_methW (dx := ?dx) ?h (ml_CaseRows_takes_sign (v0 := ?v0) (v1 := ?v1) (v2 := ?v2) (v3 := ?v3) (v4 := ?v4) (v5 := ?v5) (v6 := ?v6)) ?_); (case h => walk_at "lk")) | ((with_reducible refine Z.r_methSW (dx := ?dx) ?h (ml_CaseRows_takes_sign (v0 := ?v0) (v1 := ?v1) (v2 := ?v2) (v3 := ?v3) (v4 := ?v4) (v5 := ?v5) (v6 := ?v6)) ?_); (case h => walk_at "lk")) | ((with_reducible refine Z.r_methW (dx := ?dx) ?h (ml_CaseRows_is_open (v0 := ?v0) (v1 := ?v1) (v2 := ?v2) (v3 := ?v3) (v4 := ?v4) (v5 := ?v5) (v6 := ?v6)) ?_); (case h => walk_at "lk")) | ((with_reducible refine Z.r_methSW (dx := ?dx) ?h (ml_CaseRows_is_open (v0 := ?v0) (v1 := ?v1) (v2 := ?v2) (v3 := ?v3) (v4 := ?v4) (v5 := ?v5) (v6 := ?v6)) ?_); (case h => walk_at "lk")) | ((with_reducible refine Z.r_methW (dx := ?dx) ?h (ml_CaseRows_takes_first (v0 := ?v0) (v1 := ?v1) (v2 := ?v2) (v3 := ?v3) (v4 := ?v4) (v5 := ?v5) (v6 := ?v6)) ?_); (case h => walk_at "lk")) | ((with_reducible refine Z.r_methSW (dx := ?dx) ?h (ml_CaseRows_takes_first (v0 := ?v0) (v1 := ?v1) (v2 := ?v2) (v3 := ?v3) (v4 := ?v4) (v5 := ?v5) (v6 := ?v6)) ?_); (case h => walk_at "lk")) | ((with_reducible refine Z.r_methW (dx := ?dx) ?h (ml_CaseRows_takes_pair (v0 := ?v0) (v1 := ?v1) (v2 := ?v2) (v3 := ?v3) (v4 := ?v4) (v5 := ?v5) (v6 := ?v6)) ?_); (case h => walk_at "lk")) | ((with_reducible refine Z.r_methSW (dx := ?dx) ?h (ml_CaseRows_takes_pair (v0 := ?v0) (v1 := ?v1) (v2 := ?v2) (v3 := ?v3) (v4 := ?v4) (v5 := ?v5) (v6 := ?v6)) ?_); (case h => walk_at "lk")) | ((with_reducible refine Z.r_methW (dx := ?dx) ?h (ml_CaseRows_takes_longest (v0 := ?v0) (v1 := ?v1) (v2 := ?v2) (v3 := ?v3) (v4 := ?v4) (v5 := ?v5) (v6 := ?v6)) ?_); (case h => walk_at "lk")) | ((with_reducible refine Z.r_methSW (dx := ?dx) ?h (ml_CaseRows_takes_longest (v0 := ?v0) (v1 := ?v1) (v2 := ?v2) (v3 := ?v3) (v4 := ?v4) (v5 := ?v5) (v6 := ?v6)) ?_); (case h => walk_at "lk")) | ((with_reducible refine Z.r_methW (dx := ?dx) ?h (ml_CaseRows_takes_thing (v0 := ?v0) (v1 := ?v1) (v2 := ?v2) (v3 := ?v3) (v4 := ?v4) (v5 := ?v5) (v6 := ?v6)) ?_); (case h => walk_at "lk")) | ((with_reducible refine Z.r_methSW (dx := ?dx) ?h (ml_CaseRows_takes_thing (v0 := ?v0) (v1 := ?v1) (v2 := ?v2) (v3 := ?v3) (v4 := ?v4) (v5 := ?v5) (v6 := ?v6)) ?_); (case h => walk_at "lk")) | ((with_reducible refine Z.r_methW (dx := ?dx) ?h (ml_CaseRows_takes_word (v0 := ?v0) (v1 := ?v1) (v2 := ?v2) (v3 := ?v3) (v4 := ?v4) (v5 := ?v5) (v6 := ?v6)) ?_); (case h => walk_at "lk")) | ((with_reducible refine Z.r_methSW (dx := ?dx) ?h (ml_CaseRows_takes_word (v0 := ?v0) (v1 := ?v1) (v2 := ?v2) (v3 := ?v3) (v4 := ?v4) (v5 := ?v5) (v6 := ?v6)) ?_); (case h => walk_at "lk")) | ((with_reducible refine Z.r_methW (dx := ?dx) ?h (ml_CaseRows_takes (v0 := ?v0) (v1 := ?v1) (v2 := ?v2) (v3 := ?v3) (v4 := ?v4) (v5 := ?v5) (v6 := ?v6)) ?_); (case h => walk_at "lk")) | ((with_reducible refine Z.r_methSW (dx := ?dx) ?h (ml_CaseRows_takes (v0 := ?v0) (v1 := ?v1) (v2 := ?v2) (v3 := ?v3) (v4 := ?v4) (v5 := ?v5) (v6 := ?v6)) ?_); (case h => walk_at "lk")) | ((with_reducible refine Z.r_methW (dx := ?dx) ?h (ml_CaseRows_lacks (v0 := ?v0) (v1 := ?v1) (v2 := ?v2) (v3 := ?v3) (v4 := ?v4) (v5 := ?v5) (v6 := ?v6)) ?_); (case h => walk_at "lk")) | ((with_reducible refine Z.r_methSW (dx := ?dx) ?h (ml_CaseRows_lacks (v0 := ?v0) (v1 := ?v1) (v2 := ?v2) (v3 := ?v3) (v4 := ?v4) (v5 := ?v5) (v6 := ?v6)) ?_); (case h => walk_at "lk")) | ((with_reducible refine Z.r_methW (dx := ?dx) ?h (ml_CaseRows_made (v0 := ?v0) (v1 := ?v1) (v2 := ?v2) (v3 := ?v3) (v4 := ?v4) (v5 := ?v5) (v6 := ?v6)) ?_); (case h => walk_at "lk")) | ((with_reducible refine Z.r_methSW (dx := ?dx) ?h (ml_CaseRows_made (v0 := ?v0) (v1 := ?v1) (v2 := ?v2) (v3 := ?v3) (v4 := ?v4) (v5 := ?v5) (v6 := ?v6)) ?_); (case h => walk_at "lk")))
  | ((with_reducible refine Z.r_methSHd ?_); first | ((with_reducible refine Z.r_methW (dx := ?dx) ?h (ml_CaseRows_takes_sign (v0 := ?v0) (v1 := ?v1) (v2 := ?v2) (v3 := ?v3) (v4 := ?v4) (v5 := ?v5) (v6 := ?v6)) ?_); (case h => walk_at "lk")) | ((with_reducible refine Z.r_methSW (dx := ?dx) ?h (ml_CaseRows_takes_sign (v0 := ?v0) (v1 := ?v1) (v2 := ?v2) (v3 := ?v3) (v4 := ?v4) (v5 := ?v5) (v6 := ?v6)) ?_); (case h => walk_at "lk")) | ((with_reducible refine Z.r_methW (dx := ?dx) ?h (ml_CaseRows_is_open (v0 := ?v0) (v1 := ?v1) (v2 := ?v2) (v3 := ?v3) (v4 := ?v4) (v5 := ?v5) (v6 := ?v6)) ?_); (case h => walk_at "lk")) | ((with_reducible refine Z.r_methSW (dx := ?dx) ?h (ml_CaseRows_is_open (v0 := ?v0) (v1 := ?v1) (v2 := ?v2) (v3 := ?v3) (v4 := ?v4) (v5 := ?v5) (v6 := ?v6)) ?_); (case h => walk_at "lk")) | ((with_reducible refine Z.r_methW (dx := ?dx) ?h (ml_CaseRows_takes_first (v0 := ?v0) (v1 := ?v1) (v2 := ?v2) (v3 := ?v3) (v4 := ?v4) (v5 := ?v5) (v6 := ?v6)) ?_); (case h => walk_at "lk")) | ((with_reducible refine Z.r_methSW (dx := ?dx) ?h (ml_CaseRows_takes_first (v0 := ?v0) (v1 := ?v1) (v2 := ?v2) (v3 := ?v3) (v4 := ?v4) (v5 := ?v5) (v6 := ?v6)) ?_); (case h => walk_at "lk")) | ((with_reducible refine Z.r_methW (dx := ?dx) ?h (ml_CaseRows_takes_pair (v0 := ?v0) (v1 := ?v1) (v2 := ?v2) (v3 := ?v3) (v4 := ?v4) (v5 := ?v5) (v6 := ?v6)) ?_); (case h => walk_at "lk")) | ((with_reducible refine Z.r_methSW (dx := ?dx) ?h (ml_CaseRows_takes_pair (v0 := ?v0) (v1 := ?v1) (v2 := ?v2) (v3 := ?v3) (v4 := ?v4) (v5 := ?v5) (v6 := ?v6)) ?_); (case h => walk_at "lk")) | ((with_reducible refine Z.r_methW (dx := ?dx) ?h (ml_CaseRows_takes_longest (v0 := ?v0) (v1 := ?v1) (v2 := ?v2) (v3 := ?v3) (v4 := ?v4) (v5 := ?v5) (v6 := ?v6)) ?_); (case h => walk_at "lk")) | ((with_reducible refine Z.r_methSW (dx := ?dx) ?h (ml_CaseRows_takes_longest (v0 := ?v0) (v1 := ?v1) (v2 := ?v2) (v3 := ?v3) (v4 := ?v4) (v5 := ?v5) (v6 := ?v6)) ?_); (case h => walk_at "lk")) | ((with_reducible refine Z.r_methW (dx := ?dx) ?h (ml_CaseRows_takes_thing (v0 := ?v0) (v1 := ?v1) (v2 := ?v2) (v3 := ?v3) (v4 := ?v4) (v5 := ?v5) (v6 := ?v6)) ?_); (case h => walk_at "lk")) | ((with_reducible refine Z.r_methSW (dx := ?dx) ?h (ml_CaseRows_takes_thing (v0 := ?v0) (v1 := ?v1) (v2 := ?v2) (v3 := ?v3) (v4 := ?v4) (v5 := ?v5) (v6 := ?v6)) ?_); (case h => walk_at "lk")) | ((with_reducible refine Z.r_methW (dx := ?dx) ?h (ml_CaseRows_takes_word (v0 := ?v0) (v1 := ?v1) (v2 := ?v2) (v3 := ?v3) (v4 := ?v4) (v5 := ?v5) (v6 := ?v6)) ?_); (case h => walk_at "lk")) | ((with_reducible refine Z.r_methSW (dx := ?dx) ?h (ml_CaseRows_takes_word (v0 := ?v0) (v1 := ?v1) (v2 := ?v2) (v3 := ?v3) (v4 := ?v4) (v5 := ?v5) (v6 := ?v6)) ?_); (case h => walk_at "lk")) | ((with_reducible refine Z.r_methW (dx := ?dx) ?h (ml_CaseRows_takes (v0 := ?v0) (v1 := ?v1) (v2 := ?v2) (v3 := ?v3) (v4 := ?v4) (v5 := ?v5) (v6 := ?v6)) ?_); (case h => walk_at "lk")) | ((with_reducible refine Z.r_methSW (dx := ?dx) ?h (ml_CaseRows_takes (v0 := ?v0) (v1 := ?v1) (v2 := ?v2) (v3 := ?v3) (v4 := ?v4) (v5 := ?v5) (v6 := ?v6)) ?_); (case h => walk_at "lk")) | ((with_reducible refine Z.r_methW (dx := ?dx) ?h (ml_CaseRows_lacks (v0 := ?v0) (v1 := ?v1) (v2 := ?v2) (v3 := ?v3) (v4 := ?v4) (v5 := ?v5) (v6 := ?v6)) ?_); (case h => walk_at "lk")) | ((with_reducible refine Z.r_methSW (dx := ?dx) ?h (ml_CaseRows_lacks (v0 := ?v0) (v1 := ?v1) (v2 := ?v2) (v3 := ?v3) (v4 := ?v4) (v5 := ?v5) (v6 := ?v6)) ?_); (case h => walk_at "lk")) | ((with_reducible refine Z.r_methW (dx := ?dx) ?h (ml_CaseRows_made (v0 := ?v0) (v1 := ?v1) (v2 := ?v2) (v3 := ?v3) (v4 := ?v4) (v5 := ?v5) (v6 := ?v6)) ?_); (case h => walk_at "lk")) | ((with_reducible refine Z.r_methSW (dx := ?dx) ?h (ml_CaseRows_made (v0 := ?v0) (v1 := ?v1) (v2 := ?v2) (v3 := ?v3) (v4 := ?v4) (v5 := ?v5) (v6 := ?v6)) ?_); (case h => walk_at "lk")))
  | with_reducible refine Z.r_fld ?_
  | with_reducible refine Z.r_sfld ?_
  | with_reducible refine Z.r_afld ?_
  | with_reducible refine Z.r_meth ?_
  | with_reducible refine Z.r_methS ?_
  | with_reducible refine Z.r_make ?_)
section
variable {P : Program} {w : World} {K : PySem.W.Frag} {mg : Str → Option Value} {base : Heap}
/-! ### the reader in the heap -/
def loV : Option Nat → V
  | none => .non
  | some n => .int (n : Nat)
structure RsA (K : PySem.W.Frag) (F H : Hp) (o dx a1 a2 a3 a4 a5 : Addr) (xs ys : List V) (s : RS) : Prop where
  ob : H o = some (.ins (He.ga K "CaseRows") dx (fl_CaseRows (.ref a1) (.str (S s.ls)) (.ref a2) (.ref a3) (loV s.lo) (.ref a4) (.ref a5)))
  h1 : H a1 = some (.lst xs)
  d1 : DqAll F xs (s.sg.map sgD)
  h2 : H a2 = some (.lst (s.fi.map V.str))
  h3 : H a3 = some (.lst (s.pa.map V.str))
  h4 : H a4 = some (.lst ys)
  d4 : DqAll F ys (wsD s.ws)
  h5 : H a5 = some (.lst (s.bk.map V.str))
  z : Fz [o, a1, a2, a3, a4, a5] F H
  nd : [o, a1, a2, a3, a4, a5].Nodup
/-- all but these stays; what stands still grows -/
structure Mv (M : List Addr) (F H F' H' : Hp) : Prop where
  f : Same F F'
  x : ∀ a u, a ∉ M → H a = some u → H' a = some u
theorem Mv.rfl' {M : List Addr} {F H : Hp} : Mv M F H F H := ⟨Same.refl _, fun _ _ _ h => h⟩
theorem Mv.tr {M : List Addr} {F H F1 H1 F2 H2 : Hp} (a : Mv M F H F1 H1) (b : Mv M F1 H1 F2 H2) : Mv M F H F2 H2 := ⟨a.f.trans b.f, fun c u n h => b.x c u n (a.x c u n h)⟩
theorem Mv.ext {M : List Addr} {F H F' H' : Hp} (e : Ext M F H F' H') : Mv M F H F' H' := ⟨e.f, fun _ _ _ h => e.s _ _ h⟩
theorem Mv.but {M : List Addr} {F H H' : Hp} {l : Addr} (m : l ∈ M) (b : Z.But l H H') : Mv M F H F H' := ⟨Same.refl _, fun a u n h => b a u (fun e => n (e ▸ m)) h⟩
section
variable {K : PySem.W.Frag} {F H F' H' : Hp} {o dx a1 a2 a3 a4 a5 : Addr} {xs ys : List V} {s : RS}
theorem RsA.ext (h : RsA K F H o dx a1 a2 a3 a4 a5 xs ys s) (e : Ext [o, a1, a2, a3, a4, a5] F H F' H') : RsA K F' H' o dx a1 a2 a3 a4 a5 xs ys s :=
  ⟨e.s _ _ h.ob, e.s _ _ h.h1, h.d1.up e.f, e.s _ _ h.h2, e.s _ _ h.h3, e.s _ _ h.h4, h.d4.up e.f, e.s _ _ h.h5, e.z, h.nd⟩
/-- so much of a text is in it -/
def sp_tk (K : PySem.W.Frag) (f : RS → List (List Nat) → Option RS) : Sp := fun vs H Q _ => ∃ F o dx a1 a2 a3 a4 a5 xs ys s n p ps, vs = [.ref o, .ref p] ∧ RsA K F H o dx a1 a2 a3 a4 a5 xs ys s ∧ RsK n s ∧ n ≤ 1000000 ∧
  F p = some (.lst ((ps.map S).map V.str)) ∧ (∀ q ∈ ps, q.length ≤ 3000) ∧
  ∀ F' H' xs' ys', Mv [o, a1, a2, a3, a4, a5] F H F' H' → RsA K F' H' o dx a1 a2 a3 a4 a5 xs' ys' ((f s ps).getD s) → Q (.bl (f s ps).isSome) H'
end
/-! price_in -/
def sp_pricein (K : PySem.W.Frag) : Sp := fun vs H Q _ => ∃ (M : List Addr) (F : Hp) (l : List Nat), vs = [.str (S l)] ∧ l.length ≤ 3000 ∧ Fz M F H ∧ ∀ v F' H', Ext M F H F' H' → Dq F' v (lastD (priceIn l)) → Q v H'
theorem ok_price_in (T : Txt K mg) : Z.C0 P w K mg base 5 "price_in" (sp_pricein K) := by
  refine T.d_price_in.c0 sc_price_in (fun vs H Q E h => ?_) (Z.bd0 fun _ _ _ _ _ _ us hl => match us, hl with | [_], _ => rfl) (fun f cdv A outer s H vs Q E hr h => ⟨_, (pss_cons (ps_set (i := 1) sc_price_in.nd rfl (Or.inl rfl) (pe_c0 (ok_fraction_in T) hr (by decide) rfl (pa_cons (pv 0) (pa_cons (C8.pe_gc rfl T.c_PRICE_FIGURES) pa_nil))))
  (pss_cons (ps_if (PW.pt (pw_or (pt_cmpR op_isP (pv 1) pe_non (nomark _)) (pw_or1 (pt_cmpR op_leI (pe_ix (k_ix K) (pv 1) pe_int (fun _ _ => rfl)) pe_int (nomark _)))))
  (pss_one (ps_ret pe_non)) pss_nil)
  (pss_one (ps_ret (pv 1))))), ?_⟩)
  · obtain ⟨M, F, l, rfl, _⟩ := h
    rfl
  · obtain ⟨M, F, l, rfl, hl, z, q⟩ := h
    rw [st_price_in]
    walk_at "st"
    walk_at "rd"
    refine ⟨l, 9, rfl, by decide, hl, ?_⟩
    unfold priceIn at q
    revert q
    cases fracIn l 9 with
    | none =>
      intro q H1 s1
      walk_at "rd"
      exact q _ _ _ (z.same s1) .non
    | some nd =>
      obtain ⟨n, d⟩ := nd
      intro q
      dsimp only at q
      refine fz_new z fun p F1 H1 e1 z1 f1 => ?_
      have h1 : H1 p = some (.tup [.int n, .int (d : Nat)]) := z1.get f1
      walk_at "rd"
      refine r_ite (fun h => ?_) (fun h => ?_)
      · walk_at "rd"
        have e : (if 0 < n then some (n.toNat, d) else none) = none := if_neg (by omega)
        rw [e] at q
        exact q _ _ _ e1 .non
      · walk_at "rd"
        have e : (if 0 < n then some (n.toNat, d) else none) = some (n.toNat, d) := if_pos (by omega)
        rw [e] at q
        refine q _ _ _ e1 ?_
        show Dq F1 (.ref p) (.tuple [.int ((n.toNat : Nat) : Int), .int ((d : Nat) : Int)])
        rw [Int.toNat_of_nonneg (by omega)]
        exact .tup f1 (.cons (.int _) (.cons (.int _) .nil)) (by simp)
/-! the object made -/
def sp_rsini (K : PySem.W.Frag) : Sp := fun vs H Q _ => ∃ F o dx, vs = [.ref o] ∧ Same F H ∧ F o = none ∧ H o = some (.ins (He.ga K "CaseRows") dx []) ∧
  ∀ a1 a2 a3 a4 a5 H', (∀ a u, a ≠ o → H a = some u → H' a = some u) → (∀ a ∈ [a1, a2, a3, a4, a5], H a = none) → RsA K F H' o dx a1 a2 a3 a4 a5 [] [] RS.nil → Q .non H'
end
end My

namespace My
open PySem PySem.Spec PyProof.Rows L2 Z M SX TL
local macro_rules | `(tactic| walk_at "rd1") => `(tactic| first
  | ((with_reducible refine Z.r_fldHd ?_); first | ((with_reducible refine Z.r_fldW (dx := ?dx) ?h (Txt.l_CaseRows (by assumption)) (Txt.n_CaseRows_signs (by assumption)) (gl_CaseRows_signs (v0 := ?v0) (v1 := ?v1) (v2 := ?v2) (v3 := ?v3) (v4 := ?v4) (v5 := ?v5) (v6 := ?v6)) ?_); (case h => walk_at "lk")) | ((with_reducible refine Z.r_fldW (dx := ?dx) ?h (Txt.l_CaseRows (by assumption)) (Txt.n_CaseRows_letters (by assumption)) (gl_CaseRows_letters (v0 := ?v0) (v1 := ?v1) (v2 := ?v2) (v3 := ?v3) (v4 := ?v4) (v5 := ?v5) (v6 := ?v6)) ?_); (case h => walk_at "lk")) | ((with_reducible refine Z.r_fldW (dx := ?dx) ?h (Txt.l_CaseRows (by assumption)) (Txt.n_CaseRows_firsts (by assumption)) (gl_CaseRows_firsts (v0 := ?v0) (v1 := ?v1) (v2 := ?v2) (v3 := ?v3) (v4 := ?v4) (v5 := ?v5) (v6 := ?v6)) ?_); (case h => walk_at "lk")) | ((with_reducible refine Z.r_fldW (dx := ?dx) ?h (Txt.l_CaseRows (by assumption)) (Txt.n_CaseRows_pairs (by assumption)) (gl_CaseRows_pairs (v0 := ?v0) (v1 := ?v1) (v2 := ?v2) (v3 := ?v3) (v4 := ?v4) (v5 := ?v5) (v6 := ?v6)) ?_); (case h => walk_at "lk")) | ((with_reducible refine Z.r_fldW (dx := ?dx) ?h (Txt.l_CaseRows (by assumption)) (Txt.n_CaseRows_longest (by assumption)) (gl_CaseRows_longest (v0 := ?v0) (v1 := ?v1) (v2 := ?v2) (v3 := ?v3) (v4 := ?v4) (v5 := ?v5) (v6 := ?v6)) ?_); (case h => walk_at "lk")) | ((with_reducible refine Z.r_fldW (dx := ?dx) ?h (Txt.l_CaseRows (by assumption)) (Txt.n_CaseRows_wants (by assumption)) (gl_CaseRows_wants (v0 := ?v0) (v1 := ?v1) (v2 := ?v2) (v3 := ?v3) (v4 := ?v4) (v5 := ?v5) (v6 := ?v6)) ?_); (case h => walk_at "lk")) | ((with_reducible refine Z.r_fldW (dx := ?dx) ?h (Txt.l_CaseRows (by assumption)) (Txt.n_CaseRows_words (by assumption)) (gl_CaseRows_words (v0 := ?v0) (v1 := ?v1) (v2 := ?v2) (v3 := ?v3) (v4 := ?v4) (v5 := ?v5) (v6 := ?v6)) ?_); (case h => walk_at "lk")))
  | ((with_reducible refine Z.r_setHd ?_); first | ((with_reducible refine Z.r_setW (dx := ?dx) ?h (Txt.l_CaseRows (by assumption)) (Txt.n_CaseRows_signs (by assumption)) ln_CaseRows (pt_CaseRows_signs (v0 := ?v0) (v1 := ?v1) (v2 := ?v2) (v3 := ?v3) (v4 := ?v4) (v5 := ?v5) (v6 := ?v6)) ?_); (case h => walk_at "lk")) | ((with_reducible refine Z.r_setW (dx := ?dx) ?h (Txt.l_CaseRows (by assumption)) (Txt.n_CaseRows_letters (by assumption)) ln_CaseRows (pt_CaseRows_letters (v0 := ?v0) (v1 := ?v1) (v2 := ?v2) (v3 := ?v3) (v4 := ?v4) (v5 := ?v5) (v6 := ?v6)) ?_); (case h => walk_at "lk")) | ((with_reducible refine Z.r_setW (dx := ?dx) ?h (Txt.l_CaseRows (by assumption)) (Txt.n_CaseRows_firsts (by assumption)) ln_CaseRows (pt_CaseRows_firsts (v0 := ?v0) (v1 := ?v1) (v2 := ?v2) (v3 := ?v3) (v4 := ?v4) (v5 := ?v5) (v6 := ?v6)) ?_); (case h => walk_at "lk")) | ((with_reducible refine Z.r_setW (dx := ?dx) ?h (Txt.l_CaseRows (by assumption)) (Txt.n_CaseRows_pairs (by assumption)) ln_CaseRows (pt_CaseRows_pairs (v0 := ?v0) (v1 := ?v1) (v2 := ?v2) (v3 := ?v3) (v4 := ?v4) (v5 := ?v5) (v6 := ?v6)) ?_); (case h => walk_at "lk")) | ((with_reducible refine Z.r_setW (dx := ?dx) ?h (Txt.l_CaseRows (by assumption)) (Txt.n_CaseRows_longest (by assumption)) ln_CaseRows (pt_CaseRows_longest (v0 := ?v0) (v1 := ?v1) (v2 := ?v2) (v3 := ?v3) (v4 := ?v4) (v5 := ?v5) (v6 := ?v6)) ?_); (case h => walk_at "lk")) | ((with_reducible refine Z.r_setW (dx := ?dx) ?h (Txt.l_CaseRows (by assumption)) (Txt.n_CaseRows_wants (by assumption)) ln_CaseRows (pt_CaseRows_wants (v0 := ?v0) (v1 := ?v1) (v2 := ?v2) (v3 := ?v3) (v4 := ?v4) (v5 := ?v5) (v6 := ?v6)) ?_); (case h => walk_at "lk")) | ((with_reducible refine Z.r_setW (dx := ?dx) ?h (Txt.l_CaseRows (by assumption)) (Txt.n_CaseRows_words (by assumption)) ln_CaseRows (pt_CaseRows_words (v0 := ?v0) (v1 := ?v1) (v2 := ?v2) (v3 := ?v3) (v4 := ?v4) (v5 := ?v5) (v6 := ?v6)) ?_); (case h => walk_at "lk")))
  | ((with_reducible refine Z.r_methHd ?_); first | ((with_reducible refine Z.r_methW (dx := ?dx) ?h (ml_CaseRows_takes_sign (v0 := ?v0) (v1 := ?v1) (v2 := ?v2) (v3 := ?v3) (v4 := ?v4) (v5 := ?v5) (v6 := ?v6)) ?_); (case h => walk_at "lk")) | ((with_reducible refine Z.r_methSW (dx := ?dx) ?h (ml_CaseRows_takes_sign (v0 := ?v0) (v1 := ?v1) (v2 := ?v2) (v3 := ?v3) (v4 := ?v4) (v5 := ?v5) (v6 := ?v6)) ?_); (case h => walk_at "lk")) | ((with_reducible refine Z.r_methW (dx := ?dx) ?h (ml_CaseRows_is_open (v0 := ?v0) (v1 := ?v1) (v2 := ?v2) (v3 := ?v3) (v4 := ?v4) (v5 := ?v5) (v6 := ?v6)) ?_); (case h => walk_at "lk")) | ((with_reducible refine Z.r_methSW (dx := ?dx) ?h (ml_CaseRows_is_open (v0 := ?v0) (v1 := ?v1) (v2 := ?v2) (v3 := ?v3) (v4 := ?v4) (v5 := ?v5) (v6 := ?v6)) ?_); (case h => walk_at "lk")) | ((with_reducible refine Z.r_methW (dx := ?dx) ?h (ml_CaseRows_takes_first (v0 := ?v0) (v1 := ?v1) (v2 := ?v2) (v3 := ?v3) (v4 := ?v4) (v5 := ?v5) (v6 := ?v6)) ?_); (case h => walk_at "lk")) | ((with_reducible refine Z.r_methSW (dx := ?dx) ?h (ml_CaseRows_takes_first (v0 := ?v0) (v1 := ?v1) (v2 := ?v2) (v3 := ?v3) (v4 := ?v4) (v5 := ?v5) (v6 := ?v6)) ?_); (case h => walk_at "lk")) | ((with_reducible refine Z.r_methW (dx := ?dx) ?h (ml_CaseRows_takes_pair (v0 := ?v0) (v1 := ?v1) (v2 := ?v2) (v3 := ?v3) (v4 := ?v4) (v5 := ?v5) (v6 := ?v6)) ?_); (case h => walk_at "lk")) | ((with_reducible refine Z.r_methSW (dx := ?dx) ?h (ml_CaseRows_takes_pair (v0 := ?v0) (v1 := ?v1) (v2 := ?v2) (v3 := ?v3) (v4 := ?v4) (v5 := ?v5) (v6 := ?v6)) ?_); (case h => walk_at "lk")) | ((with_reducible refine Z.r_methW (dx := ?dx) ?h (ml_CaseRows_takes_longest (v0 := ?v0) (v1 := ?v1) (v2 := ?v2) (v3 := ?v3) (v4 := ?v4) (v5 := ?v5) (v6 := ?v6)) ?_); (case h => walk_at "lk")) | ((with_reducible refine Z.r_methSW (dx := ?dx) ?h (ml_CaseRows_takes_longest (v0 := ?v0) (v1 := ?v1) (v2 := ?v2) (v3 := ?v3) (v4 := ?v4) (v5 := ?v5) (v6 := ?v6)) ?_); (case h => walk_at "lk")) | ((with_reducible refine Z.r_methW (dx := ?dx) ?h (ml_CaseRows_takes_thing (v0 := ?v0) (v1 := ?v1) (v2 := ?v2) (v3 := ?v3) (v4 := ?v4) (v5 := ?v5) (v6 := ?v6)) ?_); (case h => walk_at "lk")) | ((with_reducible refine Z.r_methSW (dx := ?dx) ?h (ml_CaseRows_takes_thing (v0 := ?v0) (v1 := ?v1) (v2 := ?v2) (v3 := ?v3) (v4 := ?v4) (v5 := ?v5) (v6 := ?v6)) ?_); (case h => walk_at "lk")) | ((with_reducible refine Z.r_methW (dx := ?dx) ?h (ml_CaseRows_takes_word (v0 := ?v0) (v1 := ?v1) (v2 := ?v2) (v3 := ?v3) (v4 := ?v4) (v5 := ?v5) (v6 := ?v6)) ?_); (case h => walk_at "lk")) | ((with_reducible refine Z.r_methSW (dx := ?dx) ?h (ml_CaseRows_takes_word (v0 := ?v0) (v1 := ?v1) (v2 := ?v2) (v3 := ?v3) (v4 := ?v4) (v5 := ?v5) (v6 := ?v6)) ?_); (case h => walk_at "lk")) | ((with_reducible refine Z.r_methW (dx := ?dx) ?h (ml_CaseRows_takes (v0 := ?v0) (v1 := ?v1) (v2 := ?v2) (v3 := ?v3) (v4 := ?v4) (v5 := ?v5) (v6 := ?v6)) ?_); (case h => walk_at "lk")) | ((with_reducible refine Z.r_methSW (dx := ?dx) ?h (ml_CaseRows_takes (v0 := ?v0) (v1 := ?v1) (v2 := ?v2) (v3 := ?v3) (v4 := ?v4) (v5 := ?v5) (v6 := ?v6)) ?_); (case h => walk_at "lk")) | ((with_reducible refine Z.r_methW (dx := ?dx) ?h (ml_CaseRows_lacks (v0 := ?v0) (v1 := ?v1) (v2 := ?v2) (v3 := ?v3) (v4 := ?v4) (v5 := ?v5) (v6 := ?v6)) ?_); (case h => walk_at "lk")) | ((with_reducible refine Z.r_methSW (dx := ?dx) ?h (ml_CaseRows_lacks (v0 := ?v0) (v1 := ?v1) (v2 := ?v2) (v3 := ?v3) (v4 := ?v4) (v5 := ?v5) (v6 := ?v6)) ?_); (case h => walk_at "lk")) | ((with_reducible refine Z.r_methW (dx := ?dx) ?h (ml_CaseRows_made (v0 := ?v0) (v1 := ?v1) (v2 := ?v2) (v3 := ?v3) (v4 := ?v4) (v5 := ?v5) (v6 := ?v6)) ?_); (case h => walk_at "lk")) | ((with_reducible refine Z.r_methSW (dx := ?dx) ?h (ml_CaseRows_made (v0 := ?v0) (v1 := ?v1) (v2 := ?v2) (v3 := ?v3) (v4 := ?v4) (v5 := ?v5) (v6 := ?v6)) ?_); (case h => walk_at "lk")))
  | ((with_reducible refine Z.r_methSHd ?_); first | ((with_reducible refine Z.r_methW (dx := ?dx) ?h (ml_CaseRows_takes_sign (v0 := ?v0) (v1 := ?v1) (v2 := ?v2) (v3 := ?v3) (v4 := ?v4) (v5 := ?v5) (v6 := ?v6)) ?_); (case h => walk_at "lk")) | ((with_reducible refine Z.r_methSW (dx := ?dx) ?h (ml_CaseRows_takes_sign (v0 := ?v0) (v1 := ?v1) (v2 := ?v2) (v3 := ?v3) (v4 := ?v4) (v5 := ?v5) (v6 := ?v6)) ?_); (case h => walk_at "lk")) | ((with_reducible refine Z.r_methW (dx := ?dx) ?h (ml_CaseRows_is_open (v0 := ?v0) (v1 := ?v1) (v2 := ?v2) (v3 := ?v3) (v4 := ?v4) (v5 := ?v5) (v6 := ?v6)) ?_); (case h => walk_at "lk")) | ((with_reducible refine Z.r_methSW (dx := ?dx) ?h (ml_CaseRows_is_open (v0 := ?v0) (v1 := ?v1) (v2 := ?v2) (v3 := ?v3) (v4 := ?v4) (v5 := ?v5) (v6 := ?v6)) ?_); (case h => walk_at "lk")) | ((with_reducible refine Z.r_methW (dx := ?dx) ?h (ml_CaseRows_takes_first (v0 := ?v0) (v1 := ?v1) (v2 := ?v2) (v3 := ?v3) (v4 := ?v4) (v5 := ?v5) (v6 := ?v6)) ?_); (case h => walk_at "lk")) | ((with_reducible refine Z.r_methSW (dx := ?dx) ?h (ml_CaseRows_takes_first (v0 := ?v0) (v1 := ?v1) (v2 := ?v2) (v3 := ?v3) (v4 := ?v4) (v5 := ?v5) (v6 := ?v6)) ?_); (case h => walk_at "lk")) | ((with_reducible refine Z.r_methW (dx := ?dx) ?h (ml_CaseRows_takes_pair (v0 := ?v0) (v1 := ?v1) (v2 := ?v2) (v3 := ?v3) (v4 := ?v4) (v5 := ?v5) (v6 := ?v6)) ?_); (case h => walk_at "lk")) | ((with_reducible refine Z.r_methSW (dx := ?dx) ?h (ml_CaseRows_takes_pair (v0 := ?v0) (v1 := ?v1) (v2 := ?v2) (v3 := ?v3) (v4 := ?v4) (v5 := ?v5) (v6 := ?v6)) ?_); (case h => walk_at "lk")) | ((with_reducible refine Z.r_methW (dx := ?dx) ?h (ml_CaseRows_takes_longest (v0 := ?v0) (v1 := ?v1) (v2 := ?v2) (v3 := ?v3) (v4 := ?v4) (v5 := ?v5) (v6 := ?v6)) ?_); (case h => walk_at "lk")) | ((with_reducible refine Z.r_methSW (dx := ?dx) ?h (ml_CaseRows_takes_longest (v0 := ?v0) (v1 := ?v1) (v2 := ?v2) (v3 := ?v3) (v4 := ?v4) (v5 := ?v5) (v6 := ?v6)) ?_); (case h => walk_at "lk")) | ((with_reducible refine Z.r_methW (dx := ?dx) ?h (ml_CaseRows_takes_thing (v0 := ?v0) (v1 := ?v1) (v2 := ?v2) (v3 := ?v3) (v4 := ?v4) (v5 := ?v5) (v6 := ?v6)) ?_); (case h => walk_at "lk")) | ((with_reducible refine Z.r_methSW (dx := ?dx) ?h (ml_CaseRows_takes_thing (v0 := ?v0) (v1 := ?v1) (v2 := ?v2) (v3 := ?v3) (v4 := ?v4) (v5 := ?v5) (v6 := ?v6)) ?_); (case h => walk_at "lk")) | ((with_reducible refine Z.r_methW (dx := ?dx) ?h (ml_CaseRows_takes_word (v0 := ?v0) (v1 := ?v1) (v2 := ?v2) (v3 := ?v3) (v4 := ?v4) (v5 := ?v5) (v6 := ?v6)) ?_); (case h => walk_at "lk")) | ((with_reducible refine Z.r_methSW (dx := ?dx) ?h (ml_CaseRows_takes_word (v0 := ?v0) (v1 := ?v1) (v2 := ?v2) (v3 := ?v3) (v4 := ?v4) (v5 := ?v5) (v6 := ?v6)) ?_); (case h => walk_at "lk")) | ((with_reducible refine Z.r_methW (dx := ?dx) ?h (ml_CaseRows_takes (v0 := ?v0) (v1 := ?v1) (v2 := ?v2) (v3 := ?v3) (v4 := ?v4) (v5 := ?v5) (v6 := ?v6)) ?_); (case h => walk_at "lk")) | ((with_reducible refine Z.r_methSW (dx := ?dx) ?h (ml_CaseRows_takes (v0 := ?v0) (v1 := ?v1) (v2 := ?v2) (v3 := ?v3) (v4 := ?v4) (v5 := ?v5) (v6 := ?v6)) ?_); (case h => walk_at "lk")) | ((with_reducible refine Z.r_methW (dx := ?dx) ?h (ml_CaseRows_lacks (v0 := ?v0) (v1 := ?v1) (v2 := ?v2) (v3 := ?v3) (v4 := ?v4) (v5 := ?v5) (v6 := ?v6)) ?_); (case h => walk_at "lk")) | ((with_reducible refine Z.r_methSW (dx := ?dx) ?h (ml_CaseRows_lacks (v0 := ?v0) (v1 := ?v1) (v2 := ?v2) (v3 := ?v3) (v4 := ?v4) (v5 := ?v5) (v6 := ?v6)) ?_); (case h => walk_at "lk")) | ((with_reducible refine Z.r_methW (dx := ?dx) ?h (ml_CaseRows_made (v0 := ?v0) (v1 := ?v1) (v2 := ?v2) (v3 := ?v3) (v4 := ?v4) (v5 := ?v5) (v6 := ?v6)) ?_); (case h => walk_at "lk")) | ((with_reducible refine Z.r_methSW (dx := ?dx) ?h (ml_CaseRows_made (v0 := ?v0) (v1 := ?v1) (v2 := ?v2) (v3 := ?v3) (v4 := ?v4) (v5 := ?v5) (v6 := ?v6)) ?_); (case h => walk_at "lk")))
  | with_reducible refine Z.r_fld ?_
  | with_reducible refine Z.r_sfld ?_
  | with_reducible refine Z.r_afld ?_
  | with_reducible refine Z.r_meth ?_
  | with_reducible refine Z.r_methS ?_
  | with_reducible refine Z.r_make ?_)
section
variable {P : Program} {w : World} {K : PySem.W.Frag} {mg : Str → Option Value} {base : Heap}
/-! ### steps of the reader's state -/
section
variable {K : PySem.W.Frag} {F F2 H H1 H2 H3 : Hp} {o dx a1 a2 a3 a4 a5 : Addr} {xs ys : List V} {s : RS}
structure RsN (o a1 a2 a3 a4 a5 : Addr) : Prop where
  o1 : o ≠ a1
  o2 : o ≠ a2
  o3 : o ≠ a3
  o4 : o ≠ a4
  o5 : o ≠ a5
  n12 : a1 ≠ a2
  n13 : a1 ≠ a3
  n14 : a1 ≠ a4
  n15 : a1 ≠ a5
  n23 : a2 ≠ a3
  n24 : a2 ≠ a4
  n25 : a2 ≠ a5
  n34 : a3 ≠ a4
  n35 : a3 ≠ a5
  n45 : a4 ≠ a5
theorem RsA.ne (R : RsA K F H o dx a1 a2 a3 a4 a5 xs ys s) : RsN o a1 a2 a3 a4 a5 := by
  have h := R.nd
  simp only [List.nodup_cons, List.mem_cons, List.not_mem_nil, or_false, not_or, List.nodup_nil] at h
  obtain ⟨⟨h1, h2, h3, h4, h5⟩, ⟨h6, h7, h8, h9⟩, ⟨h10, h11, h12⟩, ⟨h13, h14⟩, h15, _⟩ := h
  exact ⟨h1, h2, h3, h4, h5, h6, h7, h8, h9, h10, h11, h12, h13, h14, h15⟩
theorem RsA.fir (R : RsA K F H o dx a1 a2 a3 a4 a5 xs ys s) {z : Str} (b : Z.But a2 H H2) (g : H2 a2 = some (.lst (s.fi.map V.str ++ [.str z]))) : RsA K F H2 o dx a1 a2 a3 a4 a5 xs ys { s with fi := s.fi ++ [z] } := by
  have n := R.ne
  exact ⟨b _ _ n.o2 R.ob, b _ _ n.n12 R.h1, R.d1, by rw [g, List.map_append]; rfl, b _ _ n.n23.symm R.h3, b _ _ n.n24.symm R.h4, R.d4, b _ _ n.n25.symm R.h5, R.z.but (by simp) b ⟨_, g⟩, R.nd⟩
theorem RsA.pai (R : RsA K F H o dx a1 a2 a3 a4 a5 xs ys s) {z : Str} (b : Z.But a3 H H2) (g : H2 a3 = some (.lst (s.pa.map V.str ++ [.str z]))) : RsA K F H2 o dx a1 a2 a3 a4 a5 xs ys { s with pa := s.pa ++ [z] } := by
  have n := R.ne
  exact ⟨b _ _ n.o3 R.ob, b _ _ n.n13 R.h1, R.d1, b _ _ n.n23 R.h2, by rw [g, List.map_append]; rfl, b _ _ n.n34.symm R.h4, R.d4, b _ _ n.n35.symm R.h5, R.z.but (by simp) b ⟨_, g⟩, R.nd⟩
theorem RsA.wor (R : RsA K F H o dx a1 a2 a3 a4 a5 xs ys s) {z : Str} (b : Z.But a5 H H2) (g : H2 a5 = some (.lst (s.bk.map V.str ++ [.str z]))) : RsA K F H2 o dx a1 a2 a3 a4 a5 xs ys { s with bk := s.bk ++ [z] } := by
  have n := R.ne
  exact ⟨b _ _ n.o5 R.ob, b _ _ n.n15 R.h1, R.d1, b _ _ n.n25 R.h2, b _ _ n.n35 R.h3, b _ _ n.n45 R.h4, R.d4, by rw [g, List.map_append]; rfl, R.z.but (by simp) b ⟨_, g⟩, R.nd⟩
theorem RsA.thi (R : RsA K F H o dx a1 a2 a3 a4 a5 xs ys s) {w : Str × Nat} {v : V} (d : Dq F v (wantD w)) (b : Z.But a4 H H2) (g : H2 a4 = some (.lst (ys ++ [v]))) : RsA K F H2 o dx a1 a2 a3 a4 a5 xs (ys ++ [v]) { s with ws := s.ws ++ [w] } := by
  have n := R.ne
  refine ⟨b _ _ n.o4 R.ob, b _ _ n.n14 R.h1, R.d1, b _ _ n.n24 R.h2, b _ _ n.n34 R.h3, g, ?_, b _ _ n.n45.symm R.h5, R.z.but (by simp) b ⟨_, g⟩, R.nd⟩
  show DqAll F _ ((s.ws ++ [w]).map wantD)
  rw [List.map_append]
  exact R.d4.app (.cons d .nil)
theorem RsA.lng (R : RsA K F H o dx a1 a2 a3 a4 a5 xs ys s) {m : Nat} (b : Z.But o H H2) (g : H2 o = some (.ins (He.ga K "CaseRows") dx (fl_CaseRows (.ref a1) (.str (S s.ls)) (.ref a2) (.ref a3) (.int (m : Nat)) (.ref a4) (.ref a5)))) : RsA K F H2 o dx a1 a2 a3 a4 a5 xs ys { s with lo := some m } := by
  have n := R.ne
  exact ⟨g, b _ _ n.o1.symm R.h1, R.d1, b _ _ n.o2.symm R.h2, b _ _ n.o3.symm R.h3, b _ _ n.o4.symm R.h4, R.d4, b _ _ n.o5.symm R.h5, R.z.but (by simp) b ⟨_, g⟩, R.nd⟩
theorem RsA.sgn (R : RsA K F H o dx a1 a2 a3 a4 a5 xs ys s) {x : Sg} {v : V} (b1 : Z.But o H H1) (g1 : H1 o = some (.ins (He.ga K "CaseRows") dx (fl_CaseRows (.ref a1) (.str (S s.ls ++ S [x.c])) (.ref a2) (.ref a3) (loV s.lo) (.ref a4) (.ref a5))))
    (e2 : Ext [o, a1, a2, a3, a4, a5] F H1 F2 H2) (d : Dq F2 v (sgD x)) (b : Z.But a1 H2 H3) (g : H3 a1 = some (.lst (xs ++ [v]))) : RsA K F2 H3 o dx a1 a2 a3 a4 a5 (xs ++ [v]) ys { s with sg := s.sg ++ [x] } := by
  have n := R.ne
  have k : ∀ {a : Addr} {u : HO}, a ≠ o → a ≠ a1 → H a = some u → H3 a = some u := fun h1 h2 h => b _ _ h2 (e2.s _ _ (b1 _ _ h1 h))
  refine ⟨?_, g, ?_, k n.o2.symm n.n12.symm R.h2, k n.o3.symm n.n13.symm R.h3, k n.o4.symm n.n14.symm R.h4, R.d4.up e2.f, k n.o5.symm n.n15.symm R.h5, e2.z.but (by simp) b ⟨_, g⟩, R.nd⟩
  · have e : S ({ s with sg := s.sg ++ [x] } : RS).ls = S s.ls ++ S [x.c] := by
      show S ((s.sg ++ [x]).map Sg.c) = _
      rw [List.map_append, ← S_app]
      rfl
    rw [e]
    exact b _ _ n.o1 (e2.s _ _ g1)
  · show DqAll F2 _ ((s.sg ++ [x]).map sgD)
    rw [List.map_append]
    exact (R.d1.up e2.f).app (.cons d .nil)
end
theorem mem_ls (c : Nat) (l : List Nat) : decide (c ∈ (S l).cps.toList) = decide (c ∈ l) := by
  have e : (S l).cps.toList = l := rfl
  rw [e]
theorem dp_strs {K : PySem.W.Frag} {H : Hp} : ∀ l : List Str, DpAll K H (l.map V.str) (l.map PyData.str)
  | [] => .nil
  | z :: l => .cons (.str z) (dp_strs l)
theorem shaped_strs {l : List Str} (h : ∀ z ∈ l, PyData.strOk z = true) : SeqAt.shaped (.list (l.map PyData.str)) = true := by
  obtain ⟨h1, h2⟩ := strs_lay l h
  unfold SeqAt.shaped
  rw [PyData.canLay0, h1, Bool.true_and, decide_eq_true_iff, PyData.depth, h2]
  decide
theorem eqv_nil (l : List Str) : PyData.eqv (.list (l.map PyData.str)) (.list []) = decide (l = []) := by
  cases l with
  | nil => decide +kernel
  | cons a r => rfl
end
end My

namespace My
open PySem PySem.Spec PyProof.Rows L2 Z M SX TL
local macro_rules | `(tactic| walk_at "rd1") => `(tactic| first
  | ((with_reducible refine Z.r_fldHd ?_); first | ((with_reducible refine Z.r_fldW (dx := ?dx) ?h (Txt.l_CaseRows (by assumption)) (Txt.n_CaseRows_signs (by assumption)) (gl_CaseRows_signs (v0 := ?v0) (v1 := ?v1) (v2 := ?v2) (v3 := ?v3) (v4 := ?v4) (v5 := ?v5) (v6 := ?v6)) ?_); (case h => walk_at "lk")) | ((with_reducible refine Z.r_fldW (dx := ?dx) ?h (Txt.l_CaseRows (by assumption)) (Txt.n_CaseRows_letters (by assumption)) (gl_CaseRows_letters (v0 := ?v0) (v1 := ?v1) (v2 := ?v2) (v3 := ?v3) (v4 := ?v4) (v5 := ?v5) (v6 := ?v6)) ?_); (case h => walk_at "lk")) | ((with_reducible refine Z.r_fldW (dx := ?dx) ?h (Txt.l_CaseRows (by assumption)) (Txt.n_CaseRows_firsts (by assumption)) (gl_CaseRows_firsts (v0 := ?v0) (v1 := ?v1) (v2 := ?v2) (v3 := ?v3) (v4 := ?v4) (v5 := ?v5) (v6 := ?v6)) ?_); (case h => walk_at "lk")) | ((with_reducible refine Z.r_fldW (dx := ?dx) ?h (Txt.l_CaseRows (by assumption)) (Txt.n_CaseRows_pairs (by assumption)) (gl_CaseRows_pairs (v0 := ?v0) (v1 := ?v1) (v2 := ?v2) (v3 := ?v3) (v4 := ?v4) (v5 := ?v5) (v6 := ?v6)) ?_); (case h => walk_at "lk")) | ((with_reducible refine Z.r_fldW (dx := ?dx) ?h (Txt.l_CaseRows (by assumption)) (Txt.n_CaseRows_longest (by assumption)) (gl_CaseRows_longest (v0 := ?v0) (v1 := ?v1) (v2 := ?v2) (v3 := ?v3) (v4 := ?v4) (v5 := ?v5) (v6 := ?v6)) ?_); (case h => walk_at "lk")) | ((with_reducible refine Z.r_fldW (dx := ?dx) ?h (Txt.l_CaseRows (by assumption)) (Txt.n_CaseRows_wants (by assumption)) (gl_CaseRows_wants (v0 := ?v0) (v1 := ?v1) (v2 := ?v2) (v3 := ?v3) (v4 := ?v4) (v5 := ?v5) (v6 := ?v6)) ?_); (case h => walk_at "lk")) | ((with_reducible refine Z.r_fldW (dx := ?dx) ?h (Txt.l_CaseRows (by assumption)) (Txt.n_CaseRows_words (by assumption)) (gl_CaseRows_words (v0 := ?v0) (v1 := ?v1) (v2 := ?v2) (v3 := ?v3) (v4 := ?v4) (v5 := ?v5) (v6 := ?v6)) ?_); (case h => walk_at "lk")))
  | ((with_reducible refine Z.r_setHd ?_); first | ((with_reducible refine Z.r_setW (dx := ?dx) ?h (Txt.l_CaseRows (by assumption)) (Txt.n_CaseRows_signs (by assumption)) ln_CaseRows (pt_CaseRows_signs (v0 := ?v0) (v1 := ?v1) (v2 := ?v2) (v3 := ?v3) (v4 := ?v4) (v5 := ?v5) (v6 := ?v6)) ?_); (case h => walk_at "lk")) | ((with_reducible refine Z.r_setW (dx := ?dx) ?h (Txt.l_CaseRows (by assumption)) (Txt.n_CaseRows_letters (by assumption)) ln_CaseRows (pt_CaseRows_letters (v0 := ?v0) (v1 := ?v1) (v2 := ?v2) (v3 := ?v3) (v4 := ?v4) (v5 := ?v5) (v6 := ?v6)) ?_); (case h => walk_at "lk")) | ((with_reducible refine Z.r_setW (dx := ?dx) ?h (Txt.l_CaseRows (by assumption)) (Txt.n_CaseRows_firsts (by assumption)) ln_CaseRows (pt_CaseRows_firsts (v0 := ?v0) (v1 := ?v1) (v2 := ?v2) (v3 := ?v3) (v4 := ?v4) (v5 := ?v5) (v6 := ?v6)) ?_); (case h => walk_at "lk")) | ((with_reducible refine Z.r_setW (dx := ?dx) ?h (Txt.l_CaseRows (by assumption)) (Txt.n_CaseRows_pairs (by assumption)) ln_CaseRows (pt_CaseRows_pairs (v0 := ?v0) (v1 := ?v1) (v2 := ?v2) (v3 := ?v3) (v4 := ?v4) (v5 := ?v5) (v6 := ?v6)) ?_); (case h => walk_at "lk")) | ((with_reducible refine Z.r_setW (dx := ?dx) ?h (Txt.l_CaseRows (by assumption)) (Txt.n_CaseRows_longest (by assumption)) ln_CaseRows (pt_CaseRows_longest (v0 := ?v0) (v1 := ?v1) (v2 := ?v2) (v3 := ?v3) (v4 := ?v4) (v5 := ?v5) (v6 := ?v6)) ?_); (case h => walk_at "lk")) | ((with_reducible refine Z.r_setW (dx := ?dx) ?h (Txt.l_CaseRows (by assumption)) (Txt.n_CaseRows_wants (by assumption)) ln_CaseRows (pt_CaseRows_wants (v0 := ?v0) (v1 := ?v1) (v2 := ?v2) (v3 := ?v3) (v4 := ?v4) (v5 := ?v5) (v6 := ?v6)) ?_); (case h => walk_at "lk")) | ((with_reducible refine Z.r_setW (dx := ?dx) ?h (Txt.l_CaseRows (by assumption)) (Txt.n_CaseRows_words (by assumption)) ln_CaseRows (pt_CaseRows_words (v0 := ?v0) (v1 := ?v1) (v2 := ?v2) (v3 := ?v3) (v4 := ?v4) (v5 := ?v5) (v6 := ?v6)) ?_); (case h => walk_at "lk")))
  | ((with_reducible refine Z.r_methHd ?_); first | ((with_reducible refine Z.r_methW (dx := ?dx) ?h (ml_CaseRows_takes_sign (v0 := ?v0) (v1 := ?v1) (v2 := ?v2) (v3 := ?v3) (v4 := ?v4) (v5 := ?v5) (v6 := ?v6)) ?_); (case h => walk_at "lk")) | ((with_reducible refine Z.r_methSW (dx := ?dx) ?h (ml_CaseRows_takes_sign (v0 := ?v0) (v1 := ?v1) (v2 := ?v2) (v3 := ?v3) (v4 := ?v4) (v5 := ?v5) (v6 := ?v6)) ?_); (case h => walk_at "lk")) | ((with_reducible refine Z.r_methW (dx := ?dx) ?h (ml_CaseRows_is_open (v0 := ?v0) (v1 := ?v1) (v2 := ?v2) (v3 := ?v3) (v4 := ?v4) (v5 := ?v5) (v6 := ?v6)) ?_); (case h => walk_at "lk")) | ((with_reducible refine Z.r_methSW (dx := ?dx) ?h (ml_CaseRows_is_open (v0 := ?v0) (v1 := ?v1) (v2 := ?v2) (v3 := ?v3) (v4 := ?v4) (v5 := ?v5) (v6 := ?v6)) ?_); (case h => walk_at "lk")) | ((with_reducible refine Z.r_methW (dx := ?dx) ?h (ml_CaseRows_takes_first (v0 := ?v0) (v1 := ?v1) (v2 := ?v2) (v3 := ?v3) (v4 := ?v4) (v5 := ?v5) (v6 := ?v6)) ?_); (case h => walk_at "lk")) | ((with_reducible refine Z.r_methSW (dx := ?dx) ?h (ml_CaseRows_takes_first (v0 := ?v0) (v1 := ?v1) (v2 := ?v2) (v3 := ?v3) (v4 := ?v4) (v5 := ?v5) (v6 := ?v6)) ?_); (case h => walk_at "lk")) | ((with_reducible refine Z.r_methW (dx := ?dx) ?h (ml_CaseRows_takes_pair (v0 := ?v0) (v1 := ?v1) (v2 := ?v2) (v3 := ?v3) (v4 := ?v4) (v5 := ?v5) (v6 := ?v6)) ?_); (case h => walk_at "lk")) | ((with_reducible refine Z.r_methSW (dx := ?dx) ?h (ml_CaseRows_takes_pair (v0 := ?v0) (v1 := ?v1) (v2 := ?v2) (v3 := ?v3) (v4 := ?v4) (v5 := ?v5) (v6 := ?v6)) ?_); (case h => walk_at "lk")) | ((with_reducible refine Z.r_methW (dx := ?dx) ?h (ml_CaseRows_takes_longest (v0 := ?v0) (v1 := ?v1) (v2 := ?v2) (v3 := ?v3) (v4 := ?v4) (v5 := ?v5) (v6 := ?v6)) ?_); (case h => walk_at "lk")) | ((with_reducible refine Z.r_methSW (dx := ?dx) ?h (ml_CaseRows_takes_longest (v0 := ?v0) (v1 := ?v1) (v2 := ?v2) (v3 := ?v3) (v4 := ?v4) (v5 := ?v5) (v6 := ?v6)) ?_); (case h => walk_at "lk")) | ((with_reducible refine Z.r_methW (dx := ?dx) ?h (ml_CaseRows_takes_thing (v0 := ?v0) (v1 := ?v1) (v2 := ?v2) (v3 := ?v3) (v4 := ?v4) (v5 := ?v5) (v6 := ?v6)) ?_); (case h => walk_at "lk")) | ((with_reducible refine Z.r_methSW (dx := ?dx) ?h (ml_CaseRows_takes_thing (v0 := ?v0) (v1 := ?v1) (v2 := ?v2) (v3 := ?v3) (v4 := ?v4) (v5 := ?v5) (v6 := ?v6)) ?_); (case h => walk_at "lk")) | ((with_reducible refine Z.r_methW (dx := ?dx) ?h (ml_CaseRows_takes_word (v0 := ?v0) (v1 := ?v1) (v2 := ?v2) (v3 := ?v3) (v4 := ?v4) (v5 := ?v5) (v6 := ?v6)) ?_); (case h => walk_at "lk")) | ((with_reducible refine Z.r_methSW (dx := ?dx) ?h (ml_CaseRows_takes_word (v0 := ?v0) (v1 := ?v1) (v2 := ?v2) (v3 := ?v3) (v4 := ?v4) (v5 := ?v5) (v6 := ?v6)) ?_); (case h => walk_at "lk")) | ((with_reducible refine Z.r_methW (dx := ?dx) ?h (ml_CaseRows_takes (v0 := ?v0) (v1 := ?v1) (v2 := ?v2) (v3 := ?v3) (v4 := ?v4) (v5 := ?v5) (v6 := ?v6)) ?_); (case h => walk_at "lk")) | ((with_reducible refine Z.r_methSW (dx := ?dx) ?h (ml_CaseRows_takes (v0 := ?v0) (v1 := ?v1) (v2 := ?v2) (v3 := ?v3) (v4 := ?v4) (v5 := ?v5) (v6 := ?v6)) ?_); (case h => walk_at "lk")) | ((with_reducible refine Z.r_methW (dx := ?dx) ?h (ml_CaseRows_lacks (v0 := ?v0) (v1 := ?v1) (v2 := ?v2) (v3 := ?v3) (v4 := ?v4) (v5 := ?v5) (v6 := ?v6)) ?_); (case h => walk_at "lk")) | ((with_reducible refine Z.r_methSW (dx := ?dx) ?h (ml_CaseRows_lacks (v0 := ?v0) (v1 := ?v1) (v2 := ?v2) (v3 := ?v3) (v4 := ?v4) (v5 := ?v5) (v6 := ?v6)) ?_); (case h => walk_at "lk")) | ((with_reducible refine Z.r_methW (dx := ?dx) ?h (ml_CaseRows_made (v0 := ?v0) (v1 := ?v1) (v2 := ?v2) (v3 := ?v3) (v4 := ?v4) (v5 := ?v5) (v6 := ?v6)) ?_); (case h => walk_at "lk")) | ((with_reducible refine Z.r_methSW (dx := ?dx) ?h (ml_CaseRows_made (v0 := ?v0) (v1 := ?v1) (v2 := ?v2) (v3 := ?v3) (v4 := ?v4) (v5 := ?v5) (v6 := ?v6)) ?_); (case h => walk_at "lk")))
  | ((with_reducible refine Z.r_methSHd ?_); first | ((with_reducible refine Z.r_methW (dx := ?dx) ?h (ml_CaseRows_takes_sign (v0 := ?v0) (v1 := ?v1) (v2 := ?v2) (v3 := ?v3) (v4 := ?v4) (v5 := ?v5) (v6 := ?v6)) ?_); (case h => walk_at "lk")) | ((with_reducible refine Z.r_methSW (dx := ?dx) ?h (ml_CaseRows_takes_sign (v0 := ?v0) (v1 := ?v1) (v2 := ?v2) (v3 := ?v3) (v4 := ?v4) (v5 := ?v5) (v6 := ?v6)) ?_); (case h => walk_at "lk")) | ((with_reducible refine Z.r_methW (dx := ?dx) ?h (ml_CaseRows_is_open (v0 := ?v0) (v1 := ?v1) (v2 := ?v2) (v3 := ?v3) (v4 := ?v4) (v5 := ?v5) (v6 := ?v6)) ?_); (case h => walk_at "lk")) | ((with_reducible refine Z.r_methSW (dx := ?dx) ?h (ml_CaseRows_is_open (v0 := ?v0) (v1 := ?v1) (v2 := ?v2) (v3 := ?v3) (v4 := ?v4) (v5 := ?v5) (v6 := ?v6)) ?_); (case h => walk_at "lk")) | ((with_reducible refine Z.r_methW (dx := ?dx) ?h (ml_CaseRows_takes_first (v0 := ?v0) (v1 := ?v1) (v2 := ?v2) (v3 := ?v3) (v4 := ?v4) (v5 := ?v5) (v6 := ?v6)) ?_); (case h => walk_at "lk")) | ((with_reducible refine Z.r_methSW (dx := ?dx) ?h (ml_CaseRows_takes_first (v0 := ?v0) (v1 := ?v1) (v2 := ?v2) (v3 := ?v3) (v4 := ?v4) (v5 := ?v5) (v6 := ?v6)) ?_); (case h => walk_at "lk")) | ((with_reducible refine Z.r_methW (dx := ?dx) ?h (ml_CaseRows_takes_pair (v0 := ?v0) (v1 := ?v1) (v2 := ?v2) (v3 := ?v3) (v4 := ?v4) (v5 := ?v5) (v6 := ?v6)) ?_); (case h => walk_at "lk")) | ((with_reducible refine Z.r_methSW (dx := ?dx) ?h (ml_CaseRows_takes_pair (v0 := ?v0) (v1 := ?v1) (v2 := ?v2) (v3 := ?v3) (v4 := ?v4) (v5 := ?v5) (v6 := ?v6)) ?_); (case h => walk_at "lk")) | ((with_reducible refine Z.r_methW (dx := ?dx) ?h (ml_CaseRows_takes_longest (v0 := ?v0) (v1 := ?v1) (v2 := ?v2) (v3 := ?v3) (v4 := ?v4) (v5 := ?v5) (v6 := ?v6)) ?_); (case h => walk_at "lk")) | ((with_reducible refine Z.r_methSW (dx := ?dx) ?h (ml_CaseRows_takes_longest (v0 := ?v0) (v1 := ?v1) (v2 := ?v2) (v3 := ?v3) (v4 := ?v4) (v5 := ?v5) (v6 := ?v6)) ?_); (case h => walk_at "lk")) | ((with_reducible refine Z.r_methW (dx := ?dx) ?h (ml_CaseRows_takes_thing (v0 := ?v0) (v1 := ?v1) (v2 := ?v2) (v3 := ?v3) (v4 := ?v4) (v5 := ?v5) (v6 := ?v6)) ?_); (case h => walk_at "lk")) | ((with_reducible refine Z.r_methSW (dx := ?dx) ?h (ml_CaseRows_takes_thing (v0 := ?v0) (v1 := ?v1) (v2 := ?v2) (v3 := ?v3) (v4 := ?v4) (v5 := ?v5) (v6 := ?v6)) ?_); (case h => walk_at "lk")) | ((with_reducible refine Z.r_methW (dx := ?dx) ?h (ml_CaseRows_takes_word (v0 := ?v0) (v1 := ?v1) (v2 := ?v2) (v3 := ?v3) (v4 := ?v4) (v5 := ?v5) (v6 := ?v6)) ?_); (case h => walk_at "lk")) | ((with_reducible refine Z.r_methSW (dx := ?dx) ?h (ml_CaseRows_takes_word (v0 := ?v0) (v1 := ?v1) (v2 := ?v2) (v3 := ?v3) (v4 := ?v4) (v5 := ?v5) (v6 := ?v6)) ?_); (case h => walk_at "lk")) | ((with_reducible refine Z.r_methW (dx := ?dx) ?h (ml_CaseRows_takes (v0 := ?v0) (v1 := ?v1) (v2 := ?v2) (v3 := ?v3) (v4 := ?v4) (v5 := ?v5) (v6 := ?v6)) ?_); (case h => walk_at "lk")) | ((with_reducible refine Z.r_methSW (dx := ?dx) ?h (ml_CaseRows_takes (v0 := ?v0) (v1 := ?v1) (v2 := ?v2) (v3 := ?v3) (v4 := ?v4) (v5 := ?v5) (v6 := ?v6)) ?_); (case h => walk_at "lk")) | ((with_reducible refine Z.r_methW (dx := ?dx) ?h (ml_CaseRows_lacks (v0 := ?v0) (v1 := ?v1) (v2 := ?v2) (v3 := ?v3) (v4 := ?v4) (v5 := ?v5) (v6 := ?v6)) ?_); (case h => walk_at "lk")) | ((with_reducible refine Z.r_methSW (dx := ?dx) ?h (ml_CaseRows_lacks (v0 := ?v0) (v1 := ?v1) (v2 := ?v2) (v3 := ?v3) (v4 := ?v4) (v5 := ?v5) (v6 := ?v6)) ?_); (case h => walk_at "lk")) | ((with_reducible refine Z.r_methW (dx := ?dx) ?h (ml_CaseRows_made (v0 := ?v0) (v1 := ?v1) (v2 := ?v2) (v3 := ?v3) (v4 := ?v4) (v5 := ?v5) (v6 := ?v6)) ?_); (case h => walk_at "lk")) | ((with_reducible refine Z.r_methSW (dx := ?dx) ?h (ml_CaseRows_made (v0 := ?v0) (v1 := ?v1) (v2 := ?v2) (v3 := ?v3) (v4 := ?v4) (v5 := ?v5) (v6 := ?v6)) ?_); (case h => walk_at "lk")))
  | with_reducible refine Z.r_fld ?_
  | with_reducible refine Z.r_sfld ?_
  | with_reducible refine Z.r_afld ?_
  | with_reducible refine Z.r_meth ?_
  | with_reducible refine Z.r_methS ?_
  | with_reducible refine Z.r_make ?_)
section
variable {P : Program} {w : World} {K : PySem.W.Frag} {mg : Str → Option Value} {base : Heap}
theorem takeSign_len {s : RS} {ps : List (List Nat)} (h : ps.length ≠ 3) : takeSign s ps = none := by
  match ps, h with
  | [], _ => rfl
  | [_], _ => rfl
  | [_, _], _ => rfl
  | [_, _, _], h => exact absurd rfl h
  | _ :: _ :: _ :: _ :: _, _ => rfl
theorem takeSign_no {s : RS} {u p q : List Nat} (h : ¬ (s.fi = [] ∧ s.pa = [] ∧ s.lo = none)) : takeSign s [u, p, q] = none := if_neg h
theorem takeSign_six {s : RS} {u p q : List Nat} (hA : s.fi = [] ∧ s.pa = [] ∧ s.lo = none) (h : s.sg.length = 6) : takeSign s [u, p, q] = none := by
  show (if s.fi = [] ∧ s.pa = [] ∧ s.lo = none then (match u with
    | [c] => if s.sg.length ≠ 6 ∧ low c = true ∧ c ∉ s.ls then _ else none
    | _ => none) else none) = none
  rw [if_pos hA]
  split
  · exact if_neg fun z => z.1 h
  · rfl
theorem takeSign_one {s : RS} {u p q : List Nat} (h : ∀ c, u ≠ [c]) : takeSign s [u, p, q] = none := by
  show (if s.fi = [] ∧ s.pa = [] ∧ s.lo = none then (match u with
    | [c] => if s.sg.length ≠ 6 ∧ low c = true ∧ c ∉ s.ls then _ else none
    | _ => none) else none) = none
  split
  · split
    · exact absurd rfl (h _)
    · rfl
  · rfl
theorem takeSign_bad {s : RS} {c : Nat} {p q : List Nat} (h : ¬ (low c = true ∧ c ∉ s.ls)) : takeSign s [[c], p, q] = none := by
  show (if s.fi = [] ∧ s.pa = [] ∧ s.lo = none then (if s.sg.length ≠ 6 ∧ low c = true ∧ c ∉ s.ls then _ else none) else none) = none
  split
  · exact if_neg fun z => h z.2
  · rfl
theorem okm_CaseRows_takes_sign (T : Txt K mg) : Z.M0 P w K mg base 6 (He.ga K "CaseRows") "takes_sign" (sp_tk K takeSign) := by
  refine T.d_CaseRows_takes_sign.m0 T.m_CaseRows_takes_sign scm_CaseRows_takes_sign (fun vs H Q E h => ?_) (Z.bdm fun _ _ _ _ _ _ us hl => match us, hl with | [_, _], _ => rfl) (fun f cdv A outer s H vs Q E hr h => ⟨_, (pss_cons (ps_if (PW.pt (pw_or (pt_cmpR (k_neP K hr.units) (pe_callB (k_len K) rfl T.b_len (by decide +kernel) (pa_cons (pv 1) pa_nil)) pe_int (nomark _)) (pw_or (pt_cmpR (k_neP K hr.units) (pe_op (k_addP K) (k_fld K (pv 0) rfl) (k_fld K (pv 0) rfl)) (pe_lst pa_nil) (nomark _)) (pw_or1 (pt_cmpR op_isNotP (k_fld K (pv 0) rfl) pe_non (nomark _))))))
  (pss_one (ps_ret pe_bl)) pss_nil)
  (pss_cons (ps_asg (pv 1) (k_lst (n := 3) K rfl (pgs_cons (pg_name (i := 2) scm_CaseRows_takes_sign.nd rfl (Or.inl rfl)) (pgs_cons (pg_name (i := 3) scm_CaseRows_takes_sign.nd rfl (Or.inl rfl)) (pgs_cons (pg_name (i := 4) scm_CaseRows_takes_sign.nd rfl (Or.inl rfl)) pgs_nil)))))
  (pss_cons (ps_if (PW.pt (pw_or (pt_cmpR (k_eqP K hr.units) (pe_callB (k_len K) rfl T.b_len (by decide +kernel) (pa_cons (k_fld K (pv 0) rfl) pa_nil)) (C8.pe_gc rfl T.c_MOST_SIGNS_casereader) (nomark _)) (pw_or (pt_cmpR (k_neP K hr.units) (pe_callB (k_len K) rfl T.b_len (by decide +kernel) (pa_cons (pv 2) pa_nil)) pe_int (nomark _)) (pw_or (pt_cmpR (k_notInP K) (pv 2) (C8.pe_gc rfl T.c_LETTERS_casereader) (by rfl)) (pw_or1 (pt_cmpR (k_inP K) (pv 2) (k_fld K (pv 0) rfl) (by rfl)))))))
  (pss_one (ps_ret pe_bl)) pss_nil)
  (pss_cons (ps_par (i := 5) (j := 6) rfl scm_CaseRows_takes_sign.nd rfl rfl (by decide) rfl rfl (pa_cons (pe_c0 (ok_price_in T) hr (by decide) rfl (pa_cons (pv 3) pa_nil)) (pa_cons (pe_c0 (ok_price_in T) hr (by decide) rfl (pa_cons (pv 4) pa_nil)) pa_nil)) rfl)
  (pss_cons (ps_if (PW.pt (pw_or (pt_cmpR op_isP (pv 5) pe_non (nomark _)) (pw_or1 (PW.pt (pw_and (pt_cmpR op_isP (pv 6) pe_non (nomark _)) (pw_and1 (pt_cmpR (k_neP K hr.units) (pv 4) pe_str (nomark _))))))))
  (pss_one (ps_ret pe_bl)) pss_nil)
  (pss_cons (ps_fldaug (pv 0) (pv 2) in_addS)
  (pss_cons (ps_expr (k_bm K PySem.F.plainAttrs_list PySem.F.slot_list_append PySem.F.type_list_append mt_append (k_fld K (pv 0) rfl) (pa_cons (pe_tup (pa_cons (pv 2) (pa_cons (pv 5) (pa_cons (pv 6) pa_nil)))) pa_nil)))
  (pss_one (ps_ret pe_bl))))))))), ?_⟩)
  · obtain ⟨F, o, dx, a1, a2, a3, a4, a5, xs, ys, s, n, p, ps, rfl, _⟩ := h
    rfl
  · obtain ⟨F, o, dx, a1, a2, a3, a4, a5, xs, ys, s, n, p, ps, rfl, R, k, hn, hp, hps, q⟩ := h
    rw [stm_CaseRows_takes_sign]
    walk_at "st"
    have z := R.z
    have ho := R.ob
    have h2 := R.h2
    have h3 := R.h3
    have k1 := k.k1
    have k2 := k.k2
    have k3 := k.k3
    have no : ∀ F' H' xs' ys', takeSign s ps = none → Mv [o, a1, a2, a3, a4, a5] F H F' H' → RsA K F' H' o dx a1 a2 a3 a4 a5 xs' ys' s → Q (.bl false) H' := fun F' H' xs' ys' e m r => by
      have := q F' H' xs' ys' m
      rw [e] at this
      exact this r
    have hlen : ((ps.map S).map V.str).length = ps.length := by rw [List.length_map, List.length_map]
    walk_at "rd"
    rw [hlen]
    refine r_nite (fun hl => ?_) (fun hl => ?_)
    · walk_at "rd"
      exact no F H xs ys (takeSign_len (by omega)) Mv.rfl' R
    obtain ⟨u, pp, qq, rfl⟩ : ∃ u pp qq, ps = [u, pp, qq] := by
      match ps, hl with
      | [u, pp, qq], _ => exact ⟨u, pp, qq, rfl⟩
    have hu := hps u (by simp)
    have hpp := hps pp (by simp)
    have hqq := hps qq (by simp)
    have hsu := M.S_len u
    walk_at "rd"
    intro l1 H1 n1 s1 f1
    have R1 := R.ext (z.same s1)
    walk_at "rd"
    intro l2 H2 n2 s2 f2
    have R2 := R1.ext (R1.z.same s2)
    have s12 := s1.trans s2
    rw [← List.map_append] at f1
    refine r_neD (d := .list ((s.fi ++ s.pa).map PyData.str)) (e := .list []) (.lst (sqL (s2 _ _ f1)) (dp_strs _)) (.lst (sqL f2) .nil) ?_ (shaped_strs k.k7) (by decide +kernel)
    rw [eqv_nil]
    have m2 : Mv [o, a1, a2, a3, a4, a5] F H F H2 := ⟨Same.refl _, fun _ _ _ e => s12 _ _ e⟩
    have hp2 : H2 p = some (.lst (([u, pp, qq].map S).map V.str)) := s12 _ _ (z.get hp)
    have ho2 := R2.ob
    have hx2 := R2.h1
    have z2 := R2.z
    clear s1 s2 n1 n2 f1 f2 R1 s12 h2 h3 ho z
    walk_at "rd"
    refine r_nite (fun hf => ?_) (fun hf => ?_)
    · walk_at "rd"
      exact no F H2 xs ys (takeSign_no fun h => hf (by rw [h.1, h.2.1]; rfl)) m2 R2
    have hf1 : s.fi = [] := (List.append_eq_nil_iff.mp hf).1
    have hf2 : s.pa = [] := (List.append_eq_nil_iff.mp hf).2
    walk_at "rd"
    cases hlo : s.lo with
    | some m =>
      rw [show loV (some m) = V.int (m : Nat) from rfl]
      walk_at "rd"
      exact no F H2 xs ys (takeSign_no fun h => by rw [hlo] at h; cases h.2.2) m2 R2
    | none =>
    rw [show loV none = V.non from rfl]
    have hxl : xs.length = s.sg.length := by rw [R.d1.length, List.length_map]
    have hA : s.fi = [] ∧ s.pa = [] ∧ s.lo = none := ⟨hf1, hf2, hlo⟩
    have hp2' : SqL K H2 p [V.str (S u), V.str (S pp), V.str (S qq)] := sqL hp2
    walk_at "rd"
    rw [hxl]
    refine r_ite (fun h6 => ?_) (fun h6 => ?_)
    · walk_at "rd"
      exact no F H2 xs ys (takeSign_six hA (by omega)) m2 R2
    walk_at "rd"
    rw [hsu]
    refine r_nite (fun h1 => ?_) (fun h1 => ?_)
    · walk_at "rd"
      exact no F H2 xs ys (takeSign_one fun c e => h1 (by rw [e]; rfl)) m2 R2
    obtain ⟨c, rfl⟩ : ∃ c, u = [c] := by
      match u, h1 with
      | [c], _ => exact ⟨c, rfl⟩
    walk_at "rd"
    rw [low_mem]
    cases hlow : low c with
    | false =>
      walk_at "rd"
      exact no F H2 xs ys (takeSign_bad fun h => by rw [hlow] at h; cases h.1) m2 R2
    | true =>
    walk_at "rd"
    rw [mem_ls]
    walk_at "rd"
    refine r_ite (fun hm => ?_) (fun hm => ?_)
    · walk_at "rd"
      exact no F H2 xs ys (takeSign_bad fun h => h.2 hm) m2 R2
    have hB : s.sg.length ≠ 6 ∧ low c = true ∧ c ∉ s.ls := ⟨by omega, hlow, hm⟩
    have et : takeSign s [[c], pp, qq] = (match priceIn pp with
      | some a => if priceIn qq = none ∧ qq ≠ [45] then none else some { s with sg := s.sg ++ [Sg.mk c a (priceIn qq)] }
      | none => none) := by
      show (if s.fi = [] ∧ s.pa = [] ∧ s.lo = none then (if s.sg.length ≠ 6 ∧ low c = true ∧ c ∉ s.ls then _ else none) else none) = _
      rw [if_pos hA, if_pos hB]
      cases priceIn pp <;> rfl
    clear hp2 hp2' hx2 hf h6 h1 hl hsu
    walk_at "rd"
    refine ⟨_, F, pp, rfl, hpp, z2, fun v1 F3 H3 e3 d3 => ?_⟩
    walk_at "rd"
    refine ⟨_, F3, qq, rfl, hqq, e3.z, fun v2 F4 H4 e4 d4 => ?_⟩
    have R4 := (R2.ext e3).ext e4
    have m4 := (m2.tr (Mv.ext e3)).tr (Mv.ext e4)
    have d3' := d3.up e4.f
    have ho4 := R4.ob
    clear ho2 z2 d3 e3 e4
    walk_at "rd"
    refine ⟨rfl, ?_⟩
    rw [none_dq d3']
    cases hp1 : priceIn pp with
    | none =>
      rw [show isNone (lastD none) = true from rfl]
      walk_at "rd"
      exact no F4 H4 xs ys (by rw [et, hp1]) m4 R4
    | some pa =>
    rw [show isNone (lastD (some pa)) = false from rfl]
    walk_at "rd"
    refine ⟨rfl, ?_⟩
    rw [none_dq d4]
    have fin : ¬ (priceIn qq = none ∧ qq ≠ [45]) → AugW K (Str.ofString "letters") (tVar 2) L2.rAddS [some (V.ref o), some (V.ref p), some (V.str (S [c])), some (V.str (S pp)), some (V.str (S qq)), some v1, some v2] (.ref o) H4
        (tSeq (tDrop (tBM K "list" rAppend (tFld K (tVar 0) (Str.ofString "signs")) (tCons (tTup (tCons (tVar 2) (tCons (tVar 5) (tCons (tVar 6) tNil)))) tNil))) (tRet (tC (V.bl true))) { nx := fun x H' => Q V.non H', rt := Q } [some (V.ref o), some (V.ref p), some (V.str (S [c])), some (V.str (S pp)), some (V.str (S qq)), some v1, some v2]) := fun hn => by
      refine r_augS ho4 T.l_CaseRows T.n_CaseRows_letters gl_CaseRows_letters ?_
      unfold AugS
      walk_at "rd"
      refine r_augE ?_ ho4 ln_CaseRows pt_CaseRows_letters (fun H5 b5 g5 => ?_)
      · rw [M.S_len, M.S_len]
        show (s.sg.map Sg.c).length + 1 ≤ 16777216
        rw [List.length_map]
        omega
      have z5 : Fz [o, a1, a2, a3, a4, a5] F4 H5 := R4.z.but (by simp) b5 ⟨_, g5⟩
      have x5 := b5 _ _ R4.ne.o1.symm R4.h1
      walk_at "rd"
      intro T6 H6 n6 s6 f6
      obtain ⟨e6, q6⟩ := z5.new n6 s6 f6
      have x6 := s6 _ _ x5
      walk_at "rd"
      intro H7 b7 g7
      walk_at "rd"
      have e7 : takeSign s [[c], pp, qq] = some { s with sg := s.sg ++ [Sg.mk c pa (priceIn qq)] } := by
        rw [et, hp1]
        exact if_neg hn
      rw [e7] at q
      have dT : Dq (upd F4 T6 (.tup [.str (S [c]), v1, v2])) (.ref T6) (sgD (Sg.mk c pa (priceIn qq))) := .tup q6 (.cons (.str _ (by rw [M.S_len, List.length_singleton]; decide)) (.cons (by rw [hp1] at d3'; exact d3'.up e6.f) (.cons (d4.up e6.f) .nil))) (by simp)
      refine q _ H7 _ _ (m4.tr ⟨e6.f, fun a u na h => ?_⟩) (R4.sgn (x := Sg.mk c pa (priceIn qq)) b5 g5 e6 dT b7 g7)
      have na1 : a ≠ a1 := fun e => na (by rw [e]; simp)
      have nao : a ≠ o := fun e => na (by rw [e]; simp)
      exact b7 _ _ na1 (s6 _ _ (b5 _ _ nao h))
    cases hp2 : priceIn qq with
    | some pb =>
      rw [show isNone (lastD (some pb)) = false from rfl]
      walk_at "rd"
      exact fin fun h => by rw [hp2] at h; cases h.1
    | none =>
      rw [show isNone (lastD none) = true from rfl]
      walk_at "rd"
      have e45 : (S qq = Str.ofString "-") ↔ qq = [45] := by
        rw [show Str.ofString "-" = S [45] by decide +kernel]
        exact ⟨fun h => SX.S_inj h, fun h => by rw [h]⟩
      refine r_nite (fun h => ?_) (fun h => ?_)
      · walk_at "rd"
        exact no F4 H4 xs ys (by rw [et, hp1]; exact if_pos ⟨hp2, fun z => h (e45.mpr z)⟩) m4 R4
      · walk_at "rd"
        exact fin fun z => z.2 (e45.mp h)
end
end My

namespace My
open PySem PySem.Spec PyProof.Rows L2 Z M SX TL
local macro_rules | `(tactic| walk_at "rd1") => `(tactic| first
  | ((with_reducible refine Z.r_fldHd ?_); first | ((with_reducible refine Z.r_fldW (dx := ?dx) ?h (Txt.l_CaseRows (by assumption)) (Txt.n_CaseRows_signs (by assumption)) (gl_CaseRows_signs (v0 := ?v0) (v1 := ?v1) (v2 := ?v2) (v3 := ?v3) (v4 := ?v4) (v5 := ?v5) (v6 := ?v6)) ?_); (case h => walk_at "lk")) | ((with_reducible refine Z.r_fldW (dx := ?dx) ?h (Txt.l_CaseRows (by assumption)) (Txt.n_CaseRows_letters (by assumption)) (gl_CaseRows_letters (v0 := ?v0) (v1 := ?v1) (v2 := ?v2) (v3 := ?v3) (v4 := ?v4) (v5 := ?v5) (v6 := ?v6)) ?_); (case h => walk_at "lk")) | ((with_reducible refine Z.r_fldW (dx := ?dx) ?h (Txt.l_CaseRows (by assumption)) (Txt.n_CaseRows_firsts (by assumption)) (gl_CaseRows_firsts (v0 := ?v0) (v1 := ?v1) (v2 := ?v2) (v3 := ?v3) (v4 := ?v4) (v5 := ?v5) (v6 := ?v6)) ?_); (case h => walk_at "lk")) | ((with_reducible refine Z.r_fldW (dx := ?dx) ?h (Txt.l_CaseRows (by assumption)) (Txt.n_CaseRows_pairs (by assumption)) (gl_CaseRows_pairs (v0 := ?v0) (v1 := ?v1) (v2 := ?v2) (v3 := ?v3) (v4 := ?v4) (v5 := ?v5) (v6 := ?v6)) ?_); (case h => walk_at "lk")) | ((with_reducible refine Z.r_fldW (dx := ?dx) ?h (Txt.l_CaseRows (by assumption)) (Txt.n_CaseRows_longest (by assumption)) (gl_CaseRows_longest (v0 := ?v0) (v1 := ?v1) (v2 := ?v2) (v3 := ?v3) (v4 := ?v4) (v5 := ?v5) (v6 := ?v6)) ?_); (case h => walk_at "lk")) | ((with_reducible refine Z.r_fldW (dx := ?dx) ?h (Txt.l_CaseRows (by assumption)) (Txt.n_CaseRows_wants (by assumption)) (gl_CaseRows_wants (v0 := ?v0) (v1 := ?v1) (v2 := ?v2) (v3 := ?v3) (v4 := ?v4) (v5 := ?v5) (v6 := ?v6)) ?_); (case h => walk_at "lk")) | ((with_reducible refine Z.r_fldW (dx := ?dx) ?h (Txt.l_CaseRows (by assumption)) (Txt.n_CaseRows_words (by assumption)) (gl_CaseRows_words (v0 := ?v0) (v1 := ?v1) (v2 := ?v2) (v3 := ?v3) (v4 := ?v4) (v5 := ?v5) (v6 := ?v6)) ?_); (case h => walk_at "lk")))
  | ((with_reducible refine Z.r_setHd ?_); first | ((with_reducible refine Z.r_setW (dx := ?dx) ?h (Txt.l_CaseRows (by assumption)) (Txt.n_CaseRows_signs (by assumption)) ln_CaseRows (pt_CaseRows_signs (v0 := ?v0) (v1 := ?v1) (v2 := ?v2) (v3 := ?v3) (v4 := ?v4) (v5 := ?v5) (v6 := ?v6)) ?_); (case h => walk_at "lk")) | ((with_reducible refine Z.r_setW (dx := ?dx) ?h (Txt.l_CaseRows (by assumption)) (Txt.n_CaseRows_letters (by assumption)) ln_CaseRows (pt_CaseRows_letters (v0 := ?v0) (v1 := ?v1) (v2 := ?v2) (v3 := ?v3) (v4 := ?v4) (v5 := ?v5) (v6 := ?v6)) ?_); (case h => walk_at "lk")) | ((with_reducible refine Z.r_setW (dx := ?dx) ?h (Txt.l_CaseRows (by assumption)) (Txt.n_CaseRows_firsts (by assumption)) ln_CaseRows (pt_CaseRows_firsts (v0 := ?v0) (v1 := ?v1) (v2 := ?v2) (v3 := ?v3) (v4 := ?v4) (v5 := ?v5) (v6 := ?v6)) ?_); (case h => walk_at "lk")) | ((with_reducible refine Z.r_setW (dx := ?dx) ?h (Txt.l_CaseRows (by assumption)) (Txt.n_CaseRows_pairs (by assumption)) ln_CaseRows (pt_CaseRows_pairs (v0 := ?v0) (v1 := ?v1) (v2 := ?v2) (v3 := ?v3) (v4 := ?v4) (v5 := ?v5) (v6 := ?v6)) ?_); (case h => walk_at "lk")) | ((with_reducible refine Z.r_setW (dx := ?dx) ?h (Txt.l_CaseRows (by assumption)) (Txt.n_CaseRows_longest (by assumption)) ln_CaseRows (pt_CaseRows_longest (v0 := ?v0) (v1 := ?v1) (v2 := ?v2) (v3 := ?v3) (v4 := ?v4) (v5 := ?v5) (v6 := ?v6)) ?_); (case h => walk_at "lk")) | ((with_reducible refine Z.r_setW (dx := ?dx) ?h (Txt.l_CaseRows (by assumption)) (Txt.n_CaseRows_wants (by assumption)) ln_CaseRows (pt_CaseRows_wants (v0 := ?v0) (v1 := ?v1) (v2 := ?v2) (v3 := ?v3) (v4 := ?v4) (v5 := ?v5) (v6 := ?v6)) ?_); (case h => walk_at "lk")) | ((with_reducible refine Z.r_setW (dx := ?dx) ?h (Txt.l_CaseRows (by assumption)) (Txt.n_CaseRows_words (by assumption)) ln_CaseRows (pt_CaseRows_words (v0 := ?v0) (v1 := ?v1) (v2 := ?v2) (v3 := ?v3) (v4 := ?v4) (v5 := ?v5) (v6 := ?v6)) ?_); (case h => walk_at "lk")))
  | ((with_reducible refine Z.r_methHd ?_); first | ((with_reducible refine Z.r_methW (dx := ?dx) ?h (ml_CaseRows_takes_sign (v0 := ?v0) (v1 := ?v1) (v2 := ?v2) (v3 := ?v3) (v4 := ?v4) (v5 := ?v5) (v6 := ?v6)) ?_); (case h => walk_at "lk")) | ((with_reducible refine Z.r_methSW (dx := ?dx) ?h (ml_CaseRows_takes_sign (v0 := ?v0) (v1 := ?v1) (v2 := ?v2) (v3 := ?v3) (v4 := ?v4) (v5 := ?v5) (v6 := ?v6)) ?_); (case h => walk_at "lk")) | ((with_reducible refine Z.r_methW (dx := ?dx) ?h (ml_CaseRows_is_open (v0 := ?v0) (v1 := ?v1) (v2 := ?v2) (v3 := ?v3) (v4 := ?v4) (v5 := ?v5) (v6 := ?v6)) ?_); (case h => walk_at "lk")) | ((with_reducible refine Z.r_methSW (dx := ?dx) ?h (ml_CaseRows_is_open (v0 := ?v0) (v1 := ?v1) (v2 := ?v2) (v3 := ?v3) (v4 := ?v4) (v5 := ?v5) (v6 := ?v6)) ?_); (case h => walk_at "lk")) | ((with_reducible refine Z.r_methW (dx := ?dx) ?h (ml_CaseRows_takes_first (v0 := ?v0) (v1 := ?v1) (v2 := ?v2) (v3 := ?v3) (v4 := ?v4) (v5 := ?v5) (v6 := ?v6)) ?_); (case h => walk_at "lk")) | ((with_reducible refine Z.r_methSW (dx := ?dx) ?h (ml_CaseRows_takes_first (v0 := ?v0) (v1 := ?v1) (v2 := ?v2) (v3 := ?v3) (v4 := ?v4) (v5 := ?v5) (v6 := ?v6)) ?_); (case h => walk_at "lk")) | ((with_reducible refine Z.r_methW (dx := ?dx) ?h (ml_CaseRows_takes_pair (v0 := ?v0) (v1 := ?v1) (v2 := ?v2) (v3 := ?v3) (v4 := ?v4) (v5 := ?v5) (v6 := ?v6)) ?_); (case h => walk_at "lk")) | ((with_reducible refine Z.r_methSW (dx := ?dx) ?h (ml_CaseRows_takes_pair (v0 := ?v0) (v1 := ?v1) (v2 := ?v2) (v3 := ?v3) (v4 := ?v4) (v5 := ?v5) (v6 := ?v6)) ?_); (case h => walk_at "lk")) | ((with_reducible refine Z.r_methW (dx := ?dx) ?h (ml_CaseRows_takes_longest (v0 := ?v0) (v1 := ?v1) (v2 := ?v2) (v3 := ?v3) (v4 := ?v4) (v5 := ?v5) (v6 := ?v6)) ?_); (case h => walk_at "lk")) | ((with_reducible refine Z.r_methSW (dx := ?dx) ?h (ml_CaseRows_takes_longest (v0 := ?v0) (v1 := ?v1) (v2 := ?v2) (v3 := ?v3) (v4 := ?v4) (v5 := ?v5) (v6 := ?v6)) ?_); (case h => walk_at "lk")) | ((with_reducible refine Z.r_methW (dx := ?dx) ?h (ml_CaseRows_takes_thing (v0 := ?v0) (v1 := ?v1) (v2 := ?v2) (v3 := ?v3) (v4 := ?v4) (v5 := ?v5) (v6 := ?v6)) ?_); (case h => walk_at "lk")) | ((with_reducible refine Z.r_methSW (dx := ?dx) ?h (ml_CaseRows_takes_thing (v0 := ?v0) (v1 := ?v1) (v2 := ?v2) (v3 := ?v3) (v4 := ?v4) (v5 := ?v5) (v6 := ?v6)) ?_); (case h => walk_at "lk")) | ((with_reducible refine Z.r_methW (dx := ?dx) ?h (ml_CaseRows_takes_word (v0 := ?v0) (v1 := ?v1) (v2 := ?v2) (v3 := ?v3) (v4 := ?v4) (v5 := ?v5) (v6 := ?v6)) ?_); (case h => walk_at "lk")) | ((with_reducible refine Z.r_methSW (dx := ?dx) ?h (ml_CaseRows_takes_word (v0 := ?v0) (v1 := ?v1) (v2 := ?v2) (v3 := ?v3) (v4 := ?v4) (v5 := ?v5) (v6 := ?v6)) ?_); (case h => walk_at "lk")) | ((with_reducible refine Z.r_methW (dx := ?dx) ?h (ml_CaseRows_takes (v0 := ?v0) (v1 := ?v1) (v2 := ?v2) (v3 := ?v3) (v4 := ?v4) (v5 := ?v5) (v6 := ?v6)) ?_); (case h => walk_at "lk")) | ((with_reducible refine Z.r_methSW (dx := ?dx) ?h (ml_CaseRows_takes (v0 := ?v0) (v1 := ?v1) (v2 := ?v2) (v3 := ?v3) (v4 := ?v4) (v5 := ?v5) (v6 := ?v6)) ?_); (case h => walk_at "lk")) | ((with_reducible refine Z.r_methW (dx := ?dx) ?h (ml_CaseRows_lacks (v0 := ?v0) (v1 := ?v1) (v2 := ?v2) (v3 := ?v3) (v4 := ?v4) (v5 := ?v5) (v6 := ?v6)) ?_); (case h => walk_at "lk")) | ((with_reducible refine Z.r_methSW (dx := ?dx) ?h (ml_CaseRows_lacks (v0 := ?v0) (v1 := ?v1) (v2 := ?v2) (v3 := ?v3) (v4 := ?v4) (v5 := ?v5) (v6 := ?v6)) ?_); (case h => walk_at "lk")) | ((with_reducible refine Z.r_methW (dx := ?dx) ?h (ml_CaseRows_made (v0 := ?v0) (v1 := ?v1) (v2 := ?v2) (v3 := ?v3) (v4 := ?v4) (v5 := ?v5) (v6 := ?v6)) ?_); (case h => walk_at "lk")) | ((with_reducible refine Z.r_methSW (dx := ?dx) ?h (ml_CaseRows_made (v0 := ?v0) (v1 := ?v1) (v2 := ?v2) (v3 := ?v3) (v4 := ?v4) (v5 := ?v5) (v6 := ?v6)) ?_); (case h => walk_at "lk")))
  | ((with_reducible refine Z.r_methSHd ?_); first | ((with_reducible refine Z.r_methW (dx := ?dx) ?h (ml_CaseRows_takes_sign (v0 := ?v0) (v1 := ?v1) (v2 := ?v2) (v3 := ?v3) (v4 := ?v4) (v5 := ?v5) (v6 := ?v6)) ?_); (case h => walk_at "lk")) | ((with_reducible refine Z.r_methSW (dx := ?dx) ?h (ml_CaseRows_takes_sign (v0 := ?v0) (v1 := ?v1) (v2 := ?v2) (v3 := ?v3) (v4 := ?v4) (v5 := ?v5) (v6 := ?v6)) ?_); (case h => walk_at "lk")) | ((with_reducible refine Z.r_methW (dx := ?dx) ?h (ml_CaseRows_is_open (v0 := ?v0) (v1 := ?v1) (v2 := ?v2) (v3 := ?v3) (v4 := ?v4) (v5 := ?v5) (v6 := ?v6)) ?_); (case h => walk_at "lk")) | ((with_reducible refine Z.r_methSW (dx := ?dx) ?h (ml_CaseRows_is_open (v0 := ?v0) (v1 := ?v1) (v2 := ?v2) (v3 := ?v3) (v4 := ?v4) (v5 := ?v5) (v6 := ?v6)) ?_); (case h => walk_at "lk")) | ((with_reducible refine Z.r_methW (dx := ?dx) ?h (ml_CaseRows_takes_first (v0 := ?v0) (v1 := ?v1) (v2 := ?v2) (v3 := ?v3) (v4 := ?v4) (v5 := ?v5) (v6 := ?v6)) ?_); (case h => walk_at "lk")) | ((with_reducible refine Z.r_methSW (dx := ?dx) ?h (ml_CaseRows_takes_first (v0 := ?v0) (v1 := ?v1) (v2 := ?v2) (v3 := ?v3) (v4 := ?v4) (v5 := ?v5) (v6 := ?v6)) ?_); (case h => walk_at "lk")) | ((with_reducible refine Z.r_methW (dx := ?dx) ?h (ml_CaseRows_takes_pair (v0 := ?v0) (v1 := ?v1) (v2 := ?v2) (v3 := ?v3) (v4 := ?v4) (v5 := ?v5) (v6 := ?v6)) ?_); (case h => walk_at "lk")) | ((with_reducible refine Z.r_methSW (dx := ?dx) ?h (ml_CaseRows_takes_pair (v0 := ?v0) (v1 := ?v1) (v2 := ?v2) (v3 := ?v3) (v4 := ?v4) (v5 := ?v5) (v6 := ?v6)) ?_); (case h => walk_at "lk")) | ((with_reducible refine Z.r_methW (dx := ?dx) ?h (ml_CaseRows_takes_longest (v0 := ?v0) (v1 := ?v1) (v2 := ?v2) (v3 := ?v3) (v4 := ?v4) (v5 := ?v5) (v6 := ?v6)) ?_); (case h => walk_at "lk")) | ((with_reducible refine Z.r_methSW (dx := ?dx) ?h (ml_CaseRows_takes_longest (v0 := ?v0) (v1 := ?v1) (v2 := ?v2) (v3 := ?v3) (v4 := ?v4) (v5 := ?v5) (v6 := ?v6)) ?_); (case h => walk_at "lk")) | ((with_reducible refine Z.r_methW (dx := ?dx) ?h (ml_CaseRows_takes_thing (v0 := ?v0) (v1 := ?v1) (v2 := ?v2) (v3 := ?v3) (v4 := ?v4) (v5 := ?v5) (v6 := ?v6)) ?_); (case h => walk_at "lk")) | ((with_reducible refine Z.r_methSW (dx := ?dx) ?h (ml_CaseRows_takes_thing (v0 := ?v0) (v1 := ?v1) (v2 := ?v2) (v3 := ?v3) (v4 := ?v4) (v5 := ?v5) (v6 := ?v6)) ?_); (case h => walk_at "lk")) | ((with_reducible refine Z.r_methW (dx := ?dx) ?h (ml_CaseRows_takes_word (v0 := ?v0) (v1 := ?v1) (v2 := ?v2) (v3 := ?v3) (v4 := ?v4) (v5 := ?v5) (v6 := ?v6)) ?_); (case h => walk_at "lk")) | ((with_reducible refine Z.r_methSW (dx := ?dx) ?h (ml_CaseRows_takes_word (v0 := ?v0) (v1 := ?v1) (v2 := ?v2) (v3 := ?v3) (v4 := ?v4) (v5 := ?v5) (v6 := ?v6)) ?_); (case h => walk_at "lk")) | ((with_reducible refine Z.r_methW (dx := ?dx) ?h (ml_CaseRows_takes (v0 := ?v0) (v1 := ?v1) (v2 := ?v2) (v3 := ?v3) (v4 := ?v4) (v5 := ?v5) (v6 := ?v6)) ?_); (case h => walk_at "lk")) | ((with_reducible refine Z.r_methSW (dx := ?dx) ?h (ml_CaseRows_takes (v0 := ?v0) (v1 := ?v1) (v2 := ?v2) (v3 := ?v3) (v4 := ?v4) (v5 := ?v5) (v6 := ?v6)) ?_); (case h => walk_at "lk")) | ((with_reducible refine Z.r_methW (dx := ?dx) ?h (ml_CaseRows_lacks (v0 := ?v0) (v1 := ?v1) (v2 := ?v2) (v3 := ?v3) (v4 := ?v4) (v5 := ?v5) (v6 := ?v6)) ?_); (case h => walk_at "lk")) | ((with_reducible refine Z.r_methSW (dx := ?dx) ?h (ml_CaseRows_lacks (v0 := ?v0) (v1 := ?v1) (v2 := ?v2) (v3 := ?v3) (v4 := ?v4) (v5 := ?v5) (v6 := ?v6)) ?_); (case h => walk_at "lk")) | ((with_reducible refine Z.r_methW (dx := ?dx) ?h (ml_CaseRows_made (v0 := ?v0) (v1 := ?v1) (v2 := ?v2) (v3 := ?v3) (v4 := ?v4) (v5 := ?v5) (v6 := ?v6)) ?_); (case h => walk_at "lk")) | ((with_reducible refine Z.r_methSW (dx := ?dx) ?h (ml_CaseRows_made (v0 := ?v0) (v1 := ?v1) (v2 := ?v2) (v3 := ?v3) (v4 := ?v4) (v5 := ?v5) (v6 := ?v6)) ?_); (case h => walk_at "lk")))
  | with_reducible refine Z.r_fld ?_
  | with_reducible refine Z.r_sfld ?_
  | with_reducible refine Z.r_afld ?_
  | with_reducible refine Z.r_meth ?_
  | with_reducible refine Z.r_methS ?_
  | with_reducible refine Z.r_make ?_)
section
variable {P : Program} {w : World} {K : PySem.W.Frag} {mg : Str → Option Value} {base : Heap}
theorem open_len {s : RS} {n : Nat} {ps : List (List Nat)} (h : ps.length ≠ 1) : openOk s n ps = false := by
  match ps, h with
  | [], _ => rfl
  | [_], h => exact absurd rfl h
  | _ :: _ :: _, _ => rfl
theorem len1 {ps : List (List Nat)} (h : ps.length = 1) : ∃ u, ps = [u] := by
  match ps, h with
  | [u], _ => exact ⟨u, rfl⟩
def sp_open (K : PySem.W.Frag) : Sp := fun vs H Q _ => ∃ F o dx a1 a2 a3 a4 a5 xs ys s p ps, ∃ m : Nat, vs = [.ref o, .ref p, .int m] ∧ RsA K F H o dx a1 a2 a3 a4 a5 xs ys s ∧
  F p = some (.lst ((ps.map S).map V.str)) ∧ (∀ q ∈ ps, q.length ≤ 3000) ∧ ∀ H', Same H H' → Q (.bl (openOk s m ps)) H'
theorem okm_CaseRows_is_open (T : Txt K mg) : Z.M0 P w K mg base 1 (He.ga K "CaseRows") "is_open" (sp_open K) := by
  refine T.d_CaseRows_is_open.m0 T.m_CaseRows_is_open scm_CaseRows_is_open (fun vs H Q E h => ?_) (Z.bdm fun _ _ _ _ _ _ us hl => match us, hl with | [_, _, _], _ => rfl) (fun f cdv A outer s H vs Q E hr h => ⟨_, (pss_cons (ps_if (PW.pt (pw_or (pt_cmpR (k_neP K hr.units) (pe_callB (k_len K) rfl T.b_len (by decide +kernel) (pa_cons (pv 1) pa_nil)) pe_int (nomark _)) (pw_or (pt_cmpR op_ltI (pe_callB (k_len K) rfl T.b_len (by decide +kernel) (pa_cons (k_fld K (pv 0) rfl) pa_nil)) (C8.pe_gc rfl T.c_FEWEST_SIGNS_casereader) (nomark _)) (pw_or1 (pt_cmpR op_isNotP (k_fld K (pv 0) rfl) pe_non (nomark _))))))
  (pss_one (ps_ret pe_bl)) pss_nil)
  (pss_one (ps_ret (pe_and (pe_cmpR (k_eqP K hr.units) (pe_callB (k_len K) rfl T.b_len (by decide +kernel) (pa_cons (pe_ix (k_ix K) (pv 1) pe_int (fun _ _ => rfl)) pa_nil)) (pv 2) (nomark _)) (pe_one (pe_callB (k_all K rfl) rfl T.b_all (by decide +kernel) (pa_cons (pe_lc (own := [("sign", 3)]) rfl scm_CaseRows_is_open.nd (pi_str (pe_ix (k_ix K) (pv 1) pe_int (fun _ _ => rfl))) (blkOk_by (N := ["self", "parts", "many", "sign"]) (sc := defScope sm_CaseRows_is_open) (by decide +kernel)) (fun _ _ _ _ _ => (pg_name (i := 3) scm_CaseRows_is_open.nd rfl (Or.inl rfl))) (fun _ _ _ _ _ => pts_nil) (fun _ _ _ _ _ => (pe_cmpR (k_inP K) (pv 3) (k_fld K (pv 0) rfl) (by rfl)))) pa_nil))))))), ?_⟩)
  · obtain ⟨F, o, dx, a1, a2, a3, a4, a5, xs, ys, s, p, ps, m, rfl, _⟩ := h
    rfl
  · obtain ⟨F, o, dx, a1, a2, a3, a4, a5, xs, ys, s, p, ps, m, rfl, R, hp, hps, q⟩ := h
    rw [stm_CaseRows_is_open]
    walk_at "st"
    have ho := R.ob
    have hx := R.h1
    have hp' := R.z.get hp
    have hxl : xs.length = s.sg.length := by rw [R.d1.length, List.length_map]
    have hlen : ((ps.map S).map V.str).length = ps.length := by rw [List.length_map, List.length_map]
    walk_at "rd"
    rw [hlen]
    refine r_nite (fun hl => ?_) (fun hl => ?_)
    · walk_at "rd"
      rw [open_len (by omega)] at q
      exact q H (Same.refl _)
    obtain ⟨u, rfl⟩ := len1 (ps := ps) (by omega)
    have hu := hps u (by simp)
    have hsu := M.S_len u
    have e0 : openOk s m [u] = (decide (2 ≤ s.sg.length) && decide (s.lo = none) && (decide (u.length = m) && u.all fun c => decide (c ∈ s.ls))) := rfl
    rw [e0] at q
    have a0 : atI (([u].map S).map V.str) 0 = some (.str (S u)) := rfl
    walk_at "rd"
    rw [hxl]
    refine r_ite (fun h1 => ?_) (fun h1 => ?_)
    · walk_at "rd"
      rw [decide_eq_false (by omega : ¬ 2 ≤ s.sg.length)] at q
      exact q H (Same.refl _)
    rw [decide_eq_true (by omega : 2 ≤ s.sg.length)] at q
    walk_at "rd"
    cases hlo : s.lo with
    | some k =>
      rw [show loV (some k) = V.int (k : Nat) from rfl]
      walk_at "rd"
      rw [hlo] at q
      exact q H (Same.refl _)
    | none =>
    rw [show loV none = V.non from rfl]
    rw [hlo] at q
    walk_at "rd"
    rw [hsu]
    refine r_ite (fun h2 => ?_) (fun h2 => ?_)
    · rw [decide_eq_true (by omega : u.length = m)] at q
      walk_at "rd"
      refine lcW walk_str (fun i acc _ => acc = ((u.take i).map fun c => decide (c ∈ s.ls)).map V.bl) rfl (fun _ _ => trivial) (fun _ _ => rfl) ?_ ?_
      · rintro i x acc Dl H1 _ hi hD e1 e2 hl2 rfl ⟨rfl, c, hc, rfl⟩
        have ho1 := e1 _ _ ho
        have hc2 : u[i]? = some c := by simpa [S] using hc
        walk_at "rd"
        rw [mem_ls]
        refine lc_put (by have := (List.getElem?_eq_some_iff.mp hc2).1; omega) hD e1 e2 hl2 fun H5 _ _ => ?_
        rw [List.take_add_one, hc2]
        simp
      · rintro acc Dl H1 hD e1 e2 rfl
        have en : (S u).cps.size = u.length := by simp [S]
        rw [en, List.take_length] at e2
        walk_at "rd"
        refine r_all (sqL e2) ?_
        rw [List.all_map]
        exact q H1 e1
    · rw [decide_eq_false (by omega : ¬ u.length = m)] at q
      walk_at "rd"
      exact q H (Same.refl _)
theorem okm_CaseRows_takes_first (T : Txt K mg) : Z.M0 P w K mg base 2 (He.ga K "CaseRows") "takes_first" (sp_tk K takeFirst) := by
  refine T.d_CaseRows_takes_first.m0 T.m_CaseRows_takes_first scm_CaseRows_takes_first (fun vs H Q E h => ?_) (Z.bdm fun _ _ _ _ _ _ us hl => match us, hl with | [_, _], _ => rfl) (fun f cdv A outer s H vs Q E hr h => ⟨_, (pss_cons (ps_if (PW.pt (pw_or (pt_not (pt_val (pe_m (okm_CaseRows_is_open T) T.l_CaseRows hr (by decide) (pv 0) (pa_cons (pv 1) (pa_cons pe_int pa_nil))))) (pw_or (pt_cmpR (k_neP K hr.units) (k_fld K (pv 0) rfl) (pe_lst pa_nil) (nomark _)) (pw_or1 (pt_cmpR (k_inP K) (pe_ix (k_ix K) (pv 1) pe_int (fun _ _ => rfl)) (k_fld K (pv 0) rfl) (by rfl))))))
  (pss_one (ps_ret pe_bl)) pss_nil)
  (pss_cons (ps_expr (k_bm K PySem.F.plainAttrs_list PySem.F.slot_list_append PySem.F.type_list_append mt_append (k_fld K (pv 0) rfl) (pa_cons (pe_ix (k_ix K) (pv 1) pe_int (fun _ _ => rfl)) pa_nil)))
  (pss_one (ps_ret pe_bl)))), ?_⟩)
  · obtain ⟨F, o, dx, a1, a2, a3, a4, a5, xs, ys, s, n, p, ps, rfl, _⟩ := h
    rfl
  · obtain ⟨F, o, dx, a1, a2, a3, a4, a5, xs, ys, s, n, p, ps, rfl, R, k, hn, hp, hps, q⟩ := h
    rw [stm_CaseRows_takes_first]
    walk_at "st"
    have ho := R.ob
    have no : ∀ F' H' xs' ys', takeFirst s ps = none → Mv [o, a1, a2, a3, a4, a5] F H F' H' → RsA K F' H' o dx a1 a2 a3 a4 a5 xs' ys' s → Q (.bl false) H' := fun F' H' xs' ys' e m r => by
      have := q F' H' xs' ys' m
      rw [e] at this
      exact this r
    walk_at "rd"
    refine ⟨F, o, dx, a1, a2, a3, a4, a5, xs, ys, s, p, ps, 1, rfl, R, hp, hps, fun H1 s1 => ?_⟩
    have R1 := R.ext (R.z.same s1)
    have m1 : Mv [o, a1, a2, a3, a4, a5] F H F H1 := ⟨Same.refl _, fun _ _ _ e => s1 _ _ e⟩
    cases hop : openOk s 1 ps with
    | false =>
      walk_at "rd"
      exact no F H1 xs ys (if_neg fun h => by rw [hop] at h; cases h.1) m1 R1
    | true =>
    obtain ⟨u, rfl⟩ := len1 (ps := ps) (Classical.byContradiction fun h => by rw [open_len h] at hop; cases hop)
    have ho1 := R1.ob
    have h3 := R1.h3
    walk_at "rd"
    intro l2 H2 n2 s2 f2
    have R2 := R1.ext (R1.z.same s2)
    have m2 : Mv [o, a1, a2, a3, a4, a5] F H F H2 := ⟨Same.refl _, fun _ _ _ e => s2 _ _ (s1 _ _ e)⟩
    refine r_neD (d := .list (s.pa.map PyData.str)) (e := .list []) (.lst (sqL R2.h3) (dp_strs _)) (.lst (sqL f2) .nil) ?_ (shaped_strs fun z hz => k.k7 z (List.mem_append_right _ hz)) (by decide +kernel)
    rw [eqv_nil]
    have hp2 := R2.z.get hp
    have ho2 := R2.ob
    have h2 := R2.h2
    have hfl := flat_strs s.fi
    have a0 : atI (([u].map S).map V.str) 0 = some (.str (S u)) := rfl
    have k2 := k.k2
    clear s1 s2 f2 n2 ho1 h3 ho m1
    walk_at "rd"
    refine r_nite (fun hf => ?_) (fun hf => ?_)
    · walk_at "rd"
      exact no F H2 xs ys (if_neg fun h => hf h.2.1) m2 R2
    walk_at "rd"
    rw [inV_strs]
    refine r_ite (fun hf2 => ?_) (fun hf2 => ?_)
    · walk_at "rd"
      exact no F H2 xs ys (if_neg fun h => h.2.2 hf2) m2 R2
    have hln : (s.fi.map V.str).length < 16777216 := by rw [List.length_map]; omega
    walk_at "rd"
    intro H3 b3 f3
    walk_at "rd"
    have e : takeFirst s [u] = some { s with fi := s.fi ++ [S u] } := if_pos ⟨hop, hf, hf2⟩
    rw [e] at q
    exact q F H3 xs ys (m2.tr (.but (by simp) b3)) (R2.fir b3 f3)
theorem okm_CaseRows_takes_pair (T : Txt K mg) : Z.M0 P w K mg base 2 (He.ga K "CaseRows") "takes_pair" (sp_tk K takePair) := by
  refine T.d_CaseRows_takes_pair.m0 T.m_CaseRows_takes_pair scm_CaseRows_takes_pair (fun vs H Q E h => ?_) (Z.bdm fun _ _ _ _ _ _ us hl => match us, hl with | [_, _], _ => rfl) (fun f cdv A outer s H vs Q E hr h => ⟨_, (pss_cons (ps_if (PW.pt (pw_or (pt_not (pt_val (pe_m (okm_CaseRows_is_open T) T.l_CaseRows hr (by decide) (pv 0) (pa_cons (pv 1) (pa_cons pe_int pa_nil))))) (pw_or1 (pt_cmpR (k_inP K) (pe_ix (k_ix K) (pv 1) pe_int (fun _ _ => rfl)) (k_fld K (pv 0) rfl) (by rfl)))))
  (pss_one (ps_ret pe_bl)) pss_nil)
  (pss_cons (ps_expr (k_bm K PySem.F.plainAttrs_list PySem.F.slot_list_append PySem.F.type_list_append mt_append (k_fld K (pv 0) rfl) (pa_cons (pe_ix (k_ix K) (pv 1) pe_int (fun _ _ => rfl)) pa_nil)))
  (pss_one (ps_ret pe_bl)))), ?_⟩)
  · obtain ⟨F, o, dx, a1, a2, a3, a4, a5, xs, ys, s, n, p, ps, rfl, _⟩ := h
    rfl
  · obtain ⟨F, o, dx, a1, a2, a3, a4, a5, xs, ys, s, n, p, ps, rfl, R, k, hn, hp, hps, q⟩ := h
    rw [stm_CaseRows_takes_pair]
    walk_at "st"
    have ho := R.ob
    have no : ∀ F' H' xs' ys', takePair s ps = none → Mv [o, a1, a2, a3, a4, a5] F H F' H' → RsA K F' H' o dx a1 a2 a3 a4 a5 xs' ys' s → Q (.bl false) H' := fun F' H' xs' ys' e m r => by
      have := q F' H' xs' ys' m
      rw [e] at this
      exact this r
    walk_at "rd"
    refine ⟨F, o, dx, a1, a2, a3, a4, a5, xs, ys, s, p, ps, 2, rfl, R, hp, hps, fun H1 s1 => ?_⟩
    have R1 := R.ext (R.z.same s1)
    have m1 : Mv [o, a1, a2, a3, a4, a5] F H F H1 := ⟨Same.refl _, fun _ _ _ e => s1 _ _ e⟩
    cases hop : openOk s 2 ps with
    | false =>
      walk_at "rd"
      exact no F H1 xs ys (if_neg fun h => by rw [hop] at h; cases h.1) m1 R1
    | true =>
    obtain ⟨u, rfl⟩ := len1 (ps := ps) (Classical.byContradiction fun h => by rw [open_len h] at hop; cases hop)
    have ho1 := R1.ob
    have h3 := R1.h3
    have hp1 := R1.z.get hp
    have hfl := flat_strs s.pa
    have a0 : atI (([u].map S).map V.str) 0 = some (.str (S u)) := rfl
    have k3 := k.k3
    clear s1 ho
    walk_at "rd"
    rw [inV_strs]
    refine r_ite (fun hf2 => ?_) (fun hf2 => ?_)
    · walk_at "rd"
      exact no F H1 xs ys (if_neg fun h => h.2 hf2) m1 R1
    have hln : (s.pa.map V.str).length < 16777216 := by rw [List.length_map]; omega
    walk_at "rd"
    intro H3 b3 f3
    walk_at "rd"
    have e : takePair s [u] = some { s with pa := s.pa ++ [S u] } := if_pos ⟨hop, hf2⟩
    rw [e] at q
    exact q F H3 xs ys (m1.tr (.but (by simp) b3)) (R1.pai b3 f3)
end
end My

namespace My
open PySem PySem.Spec PyProof.Rows L2 Z M SX TL
local macro_rules | `(tactic| walk_at "rd1") => `(tactic| first
  | ((with_reducible refine Z.r_fldHd ?_); first | ((with_reducible refine Z.r_fldW (dx := ?dx) ?h (Txt.l_CaseRows (by assumption)) (Txt.n_CaseRows_signs (by assumption)) (gl_CaseRows_signs (v0 := ?v0) (v1 := ?v1) (v2 := ?v2) (v3 := ?v3) (v4 := ?v4) (v5 := ?v5) (v6 := ?v6)) ?_); (case h => walk_at "lk")) | ((with_reducible refine Z.r_fldW (dx := ?dx) ?h (Txt.l_CaseRows (by assumption)) (Txt.n_CaseRows_letters (by assumption)) (gl_CaseRows_letters (v0 := ?v0) (v1 := ?v1) (v2 := ?v2) (v3 := ?v3) (v4 := ?v4) (v5 := ?v5) (v6 := ?v6)) ?_); (case h => walk_at "lk")) | ((with_reducible refine Z.r_fldW (dx := ?dx) ?h (Txt.l_CaseRows (by assumption)) (Txt.n_CaseRows_firsts (by assumption)) (gl_CaseRows_firsts (v0 := ?v0) (v1 := ?v1) (v2 := ?v2) (v3 := ?v3) (v4 := ?v4) (v5 := ?v5) (v6 := ?v6)) ?_); (case h => walk_at "lk")) | ((with_reducible refine Z.r_fldW (dx := ?dx) ?h (Txt.l_CaseRows (by assumption)) (Txt.n_CaseRows_pairs (by assumption)) (gl_CaseRows_pairs (v0 := ?v0) (v1 := ?v1) (v2 := ?v2) (v3 := ?v3) (v4 := ?v4) (v5 := ?v5) (v6 := ?v6)) ?_); (case h => walk_at "lk")) | ((with_reducible refine Z.r_fldW (dx := ?dx) ?h (Txt.l_CaseRows (by assumption)) (Txt.n_CaseRows_longest (by assumption)) (gl_CaseRows_longest (v0 := ?v0) (v1 := ?v1) (v2 := ?v2) (v3 := ?v3) (v4 := ?v4) (v5 := ?v5) (v6 := ?v6)) ?_); (case h => walk_at "lk")) | ((with_reducible refine Z.r_fldW (dx := ?dx) ?h (Txt.l_CaseRows (by assumption)) (Txt.n_CaseRows_wants (by assumption)) (gl_CaseRows_wants (v0 := ?v0) (v1 := ?v1) (v2 := ?v2) (v3 := ?v3) (v4 := ?v4) (v5 := ?v5) (v6 := ?v6)) ?_); (case h => walk_at "lk")) | ((with_reducible refine Z.r_fldW (dx := ?dx) ?h (Txt.l_CaseRows (by assumption)) (Txt.n_CaseRows_words (by assumption)) (gl_CaseRows_words (v0 := ?v0) (v1 := ?v1) (v2 := ?v2) (v3 := ?v3) (v4 := ?v4) (v5 := ?v5) (v6 := ?v6)) ?_); (case h => walk_at "lk")))
  | ((with_reducible refine Z.r_setHd ?_); first | ((with_reducible refine Z.r_setW (dx := ?dx) ?h (Txt.l_CaseRows (by assumption)) (Txt.n_CaseRows_signs (by assumption)) ln_CaseRows (pt_CaseRows_signs (v0 := ?v0) (v1 := ?v1) (v2 := ?v2) (v3 := ?v3) (v4 := ?v4) (v5 := ?v5) (v6 := ?v6)) ?_); (case h => walk_at "lk")) | ((with_reducible refine Z.r_setW (dx := ?dx) ?h (Txt.l_CaseRows (by assumption)) (Txt.n_CaseRows_letters (by assumption)) ln_CaseRows (pt_CaseRows_letters (v0 := ?v0) (v1 := ?v1) (v2 := ?v2) (v3 := ?v3) (v4 := ?v4) (v5 := ?v5) (v6 := ?v6)) ?_); (case h => walk_at "lk")) | ((with_reducible refine Z.r_setW (dx := ?dx) ?h (Txt.l_CaseRows (by assumption)) (Txt.n_CaseRows_firsts (by assumption)) ln_CaseRows (pt_CaseRows_firsts (v0 := ?v0) (v1 := ?v1) (v2 := ?v2) (v3 := ?v3) (v4 := ?v4) (v5 := ?v5) (v6 := ?v6)) ?_); (case h => walk_at "lk")) | ((with_reducible refine Z.r_setW (dx := ?dx) ?h (Txt.l_CaseRows (by assumption)) (Txt.n_CaseRows_pairs (by assumption)) ln_CaseRows (pt_CaseRows_pairs (v0 := ?v0) (v1 := ?v1) (v2 := ?v2) (v3 := ?v3) (v4 := ?v4) (v5 := ?v5) (v6 := ?v6)) ?_); (case h => walk_at "lk")) | ((with_reducible refine Z.r_setW (dx := ?dx) ?h (Txt.l_CaseRows (by assumption)) (Txt.n_CaseRows_longest (by assumption)) ln_CaseRows (pt_CaseRows_longest (v0 := ?v0) (v1 := ?v1) (v2 := ?v2) (v3 := ?v3) (v4 := ?v4) (v5 := ?v5) (v6 := ?v6)) ?_); (case h => walk_at "lk")) | ((with_reducible refine Z.r_setW (dx := ?dx) ?h (Txt.l_CaseRows (by assumption)) (Txt.n_CaseRows_wants (by assumption)) ln_CaseRows (pt_CaseRows_wants (v0 := ?v0) (v1 := ?v1) (v2 := ?v2) (v3 := ?v3) (v4 := ?v4) (v5 := ?v5) (v6 := ?v6)) ?_); (case h => walk_at "lk")) | ((with_reducible refine Z.r_setW (dx := ?dx) ?h (Txt.l_CaseRows (by assumption)) (Txt.n_CaseRows_words (by assumption)) ln_CaseRows (pt_CaseRows_words (v0 := ?v0) (v1 := ?v1) (v2 := ?v2) (v3 := ?v3) (v4 := ?v4) (v5 := ?v5) (v6 := ?v6)) ?_); (case h => walk_at "lk")))
  | ((with_reducible refine Z.r_methHd ?_); first | ((with_reducible refine Z.r_methW (dx := ?dx) ?h (ml_CaseRows_takes_sign (v0 := ?v0) (v1 := ?v1) (v2 := ?v2) (v3 := ?v3) (v4 := ?v4) (v5 := ?v5) (v6 := ?v6)) ?_); (case h => walk_at "lk")) | ((with_reducible refine Z.r_methSW (dx := ?dx) ?h (ml_CaseRows_takes_sign (v0 := ?v0) (v1 := ?v1) (v2 := ?v2) (v3 := ?v3) (v4 := ?v4) (v5 := ?v5) (v6 := ?v6)) ?_); (case h => walk_at "lk")) | ((with_reducible refine Z.r_methW (dx := ?dx) ?h (ml_CaseRows_is_open (v0 := ?v0) (v1 := ?v1) (v2 := ?v2) (v3 := ?v3) (v4 := ?v4) (v5 := ?v5) (v6 := ?v6)) ?_); (case h => walk_at "lk")) | ((with_reducible refine Z.r_methSW (dx := ?dx) ?h (ml_CaseRows_is_open (v0 := ?v0) (v1 := ?v1) (v2 := ?v2) (v3 := ?v3) (v4 := ?v4) (v5 := ?v5) (v6 := ?v6)) ?_); (case h => walk_at "lk")) | ((with_reducible refine Z.r_methW (dx := ?dx) ?h (ml_CaseRows_takes_first (v0 := ?v0) (v1 := ?v1) (v2 := ?v2) (v3 := ?v3) (v4 := ?v4) (v5 := ?v5) (v6 := ?v6)) ?_); (case h => walk_at "lk")) | ((with_reducible refine Z.r_methSW (dx := ?dx) ?h (ml_CaseRows_takes_first (v0 := ?v0) (v1 := ?v1) (v2 := ?v2) (v3 := ?v3) (v4 := ?v4) (v5 := ?v5) (v6 := ?v6)) ?_); (case h => walk_at "lk")) | ((with_reducible refine Z.r_methW (dx := ?dx) ?h (ml_CaseRows_takes_pair (v0 := ?v0) (v1 := ?v1) (v2 := ?v2) (v3 := ?v3) (v4 := ?v4) (v5 := ?v5) (v6 := ?v6)) ?_); (case h => walk_at "lk")) | ((with_reducible refine Z.r_methSW (dx := ?dx) ?h (ml_CaseRows_takes_pair (v0 := ?v0) (v1 := ?v1) (v2 := ?v2) (v3 := ?v3) (v4 := ?v4) (v5 := ?v5) (v6 := ?v6)) ?_); (case h => walk_at "lk")) | ((with_reducible refine Z.r_methW (dx := ?dx) ?h (ml_CaseRows_takes_longest (v0 := ?v0) (v1 := ?v1) (v2 := ?v2) (v3 := ?v3) (v4 := ?v4) (v5 := ?v5) (v6 := ?v6)) ?_); (case h => walk_at "lk")) | ((with_reducible refine Z.r_methSW (dx := ?dx) ?h (ml_CaseRows_takes_longest (v0 := ?v0) (v1 := ?v1) (v2 := ?v2) (v3 := ?v3) (v4 := ?v4) (v5 := ?v5) (v6 := ?v6)) ?_); (case h => walk_at "lk")) | ((with_reducible refine Z.r_methW (dx := ?dx) ?h (ml_CaseRows_takes_thing (v0 := ?v0) (v1 := ?v1) (v2 := ?v2) (v3 := ?v3) (v4 := ?v4) (v5 := ?v5) (v6 := ?v6)) ?_); (case h => walk_at "lk")) | ((with_reducible refine Z.r_methSW (dx := ?dx) ?h (ml_CaseRows_takes_thing (v0 := ?v0) (v1 := ?v1) (v2 := ?v2) (v3 := ?v3) (v4 := ?v4) (v5 := ?v5) (v6 := ?v6)) ?_); (case h => walk_at "lk")) | ((with_reducible refine Z.r_methW (dx := ?dx) ?h (ml_CaseRows_takes_word (v0 := ?v0) (v1 := ?v1) (v2 := ?v2) (v3 := ?v3) (v4 := ?v4) (v5 := ?v5) (v6 := ?v6)) ?_); (case h => walk_at "lk")) | ((with_reducible refine Z.r_methSW (dx := ?dx) ?h (ml_CaseRows_takes_word (v0 := ?v0) (v1 := ?v1) (v2 := ?v2) (v3 := ?v3) (v4 := ?v4) (v5 := ?v5) (v6 := ?v6)) ?_); (case h => walk_at "lk")) | ((with_reducible refine Z.r_methW (dx := ?dx) ?h (ml_CaseRows_takes (v0 := ?v0) (v1 := ?v1) (v2 := ?v2) (v3 := ?v3) (v4 := ?v4) (v5 := ?v5) (v6 := ?v6)) ?_); (case h => walk_at "lk")) | ((with_reducible refine Z.r_methSW (dx := ?dx) ?h (ml_CaseRows_takes (v0 := ?v0) (v1 := ?v1) (v2 := ?v2) (v3 := ?v3) (v4 := ?v4) (v5 := ?v5) (v6 := ?v6)) ?_); (case h => walk_at "lk")) | ((with_reducible refine Z.r_methW (dx := ?dx) ?h (ml_CaseRows_lacks (v0 := ?v0) (v1 := ?v1) (v2 := ?v2) (v3 := ?v3) (v4 := ?v4) (v5 := ?v5) (v6 := ?v6)) ?_); (case h => walk_at "lk")) | ((with_reducible refine Z.r_methSW (dx := ?dx) ?h (ml_CaseRows_lacks (v0 := ?v0) (v1 := ?v1) (v2 := ?v2) (v3 := ?v3) (v4 := ?v4) (v5 := ?v5) (v6 := ?v6)) ?_); (case h => walk_at "lk")) | ((with_reducible refine Z.r_methW (dx := ?dx) ?h (ml_CaseRows_made (v0 := ?v0) (v1 := ?v1) (v2 := ?v2) (v3 := ?v3) (v4 := ?v4) (v5 := ?v5) (v6 := ?v6)) ?_); (case h => walk_at "lk")) | ((with_reducible refine Z.r_methSW (dx := ?dx) ?h (ml_CaseRows_made (v0 := ?v0) (v1 := ?v1) (v2 := ?v2) (v3 := ?v3) (v4 := ?v4) (v5 := ?v5) (v6 := ?v6)) ?_); (case h => walk_at "lk")))
  | ((with_reducible refine Z.r_methSHd ?_); first | ((with_reducible refine Z.r_methW (dx := ?dx) ?h (ml_CaseRows_takes_sign (v0 := ?v0) (v1 := ?v1) (v2 := ?v2) (v3 := ?v3) (v4 := ?v4) (v5 := ?v5) (v6 := ?v6)) ?_); (case h => walk_at "lk")) | ((with_reducible refine Z.r_methSW (dx := ?dx) ?h (ml_CaseRows_takes_sign (v0 := ?v0) (v1 := ?v1) (v2 := ?v2) (v3 := ?v3) (v4 := ?v4) (v5 := ?v5) (v6 := ?v6)) ?_); (case h => walk_at "lk")) | ((with_reducible refine Z.r_methW (dx := ?dx) ?h (ml_CaseRows_is_open (v0 := ?v0) (v1 := ?v1) (v2 := ?v2) (v3 := ?v3) (v4 := ?v4) (v5 := ?v5) (v6 := ?v6)) ?_); (case h => walk_at "lk")) | ((with_reducible refine Z.r_methSW (dx := ?dx) ?h (ml_CaseRows_is_open (v0 := ?v0) (v1 := ?v1) (v2 := ?v2) (v3 := ?v3) (v4 := ?v4) (v5 := ?v5) (v6 := ?v6)) ?_); (case h => walk_at "lk")) | ((with_reducible refine Z.r_methW (dx := ?dx) ?h (ml_CaseRows_takes_first (v0 := ?v0) (v1 := ?v1) (v2 := ?v2) (v3 := ?v3) (v4 := ?v4) (v5 := ?v5) (v6 := ?v6)) ?_); (case h => walk_at "lk")) | ((with_reducible refine Z.r_methSW (dx := ?dx) ?h (ml_CaseRows_takes_first (v0 := ?v0) (v1 := ?v1) (v2 := ?v2) (v3 := ?v3) (v4 := ?v4) (v5 := ?v5) (v6 := ?v6)) ?_); (case h => walk_at "lk")) | ((with_reducible refine Z.r_methW (dx := ?dx) ?h (ml_CaseRows_takes_pair (v0 := ?v0) (v1 := ?v1) (v2 := ?v2) (v3 := ?v3) (v4 := ?v4) (v5 := ?v5) (v6 := ?v6)) ?_); (case h => walk_at "lk")) | ((with_reducible refine Z.r_methSW (dx := ?dx) ?h (ml_CaseRows_takes_pair (v0 := ?v0) (v1 := ?v1) (v2 := ?v2) (v3 := ?v3) (v4 := ?v4) (v5 := ?v5) (v6 := ?v6)) ?_); (case h => walk_at "lk")) | ((with_reducible refine Z.r_methW (dx := ?dx) ?h (ml_CaseRows_takes_longest (v0 := ?v0) (v1 := ?v1) (v2 := ?v2) (v3 := ?v3) (v4 := ?v4) (v5 := ?v5) (v6 := ?v6)) ?_); (case h => walk_at "lk")) | ((with_reducible refine Z.r_methSW (dx := ?dx) ?h (ml_CaseRows_takes_longest (v0 := ?v0) (v1 := ?v1) (v2 := ?v2) (v3 := ?v3) (v4 := ?v4) (v5 := ?v5) (v6 := ?v6)) ?_); (case h => walk_at "lk")) | ((with_reducible refine Z.r_methW (dx := ?dx) ?h (ml_CaseRows_takes_thing (v0 := ?v0) (v1 := ?v1) (v2 := ?v2) (v3 := ?v3) (v4 := ?v4) (v5 := ?v5) (v6 := ?v6)) ?_); (case h => walk_at "lk")) | ((with_reducible refine Z.r_methSW (dx := ?dx) ?h (ml_CaseRows_takes_thing (v0 := ?v0) (v1 := ?v1) (v2 := ?v2) (v3 := ?v3) (v4 := ?v4) (v5 := ?v5) (v6 := ?v6)) ?_); (case h => walk_at "lk")) | ((with_reducible refine Z.r_methW (dx := ?dx) ?h (ml_CaseRows_takes_word (v0 := ?v0) (v1 := ?v1) (v2 := ?v2) (v3 := ?v3) (v4 := ?v4) (v5 := ?v5) (v6 := ?v6)) ?_); (case h => walk_at "lk")) | ((with_reducible refine Z.r_methSW (dx := ?dx) ?h (ml_CaseRows_takes_word (v0 := ?v0) (v1 := ?v1) (v2 := ?v2) (v3 := ?v3) (v4 := ?v4) (v5 := ?v5) (v6 := ?v6)) ?_); (case h => walk_at "lk")) | ((with_reducible refine Z.r_methW (dx := ?dx) ?h (ml_CaseRows_takes (v0 := ?v0) (v1 := ?v1) (v2 := ?v2) (v3 := ?v3) (v4 := ?v4) (v5 := ?v5) (v6 := ?v6)) ?_); (case h => walk_at "lk")) | ((with_reducible refine Z.r_methSW (dx := ?dx) ?h (ml_CaseRows_takes (v0 := ?v0) (v1 := ?v1) (v2 := ?v2) (v3 := ?v3) (v4 := ?v4) (v5 := ?v5) (v6 := ?v6)) ?_); (case h => walk_at "lk")) | ((with_reducible refine Z.r_methW (dx := ?dx) ?h (ml_CaseRows_lacks (v0 := ?v0) (v1 := ?v1) (v2 := ?v2) (v3 := ?v3) (v4 := ?v4) (v5 := ?v5) (v6 := ?v6)) ?_); (case h => walk_at "lk")) | ((with_reducible refine Z.r_methSW (dx := ?dx) ?h (ml_CaseRows_lacks (v0 := ?v0) (v1 := ?v1) (v2 := ?v2) (v3 := ?v3) (v4 := ?v4) (v5 := ?v5) (v6 := ?v6)) ?_); (case h => walk_at "lk")) | ((with_reducible refine Z.r_methW (dx := ?dx) ?h (ml_CaseRows_made (v0 := ?v0) (v1 := ?v1) (v2 := ?v2) (v3 := ?v3) (v4 := ?v4) (v5 := ?v5) (v6 := ?v6)) ?_); (case h => walk_at "lk")) | ((with_reducible refine Z.r_methSW (dx := ?dx) ?h (ml_CaseRows_made (v0 := ?v0) (v1 := ?v1) (v2 := ?v2) (v3 := ?v3) (v4 := ?v4) (v5 := ?v5) (v6 := ?v6)) ?_); (case h => walk_at "lk")))
  | with_reducible refine Z.r_fld ?_
  | with_reducible refine Z.r_sfld ?_
  | with_reducible refine Z.r_afld ?_
  | with_reducible refine Z.r_meth ?_
  | with_reducible refine Z.r_methS ?_
  | with_reducible refine Z.r_make ?_)
section
variable {P : Program} {w : World} {K : PySem.W.Frag} {mg : Str → Option Value} {base : Heap}
theorem name_str {z : Str} (h : nameOk z = true) : PyData.strOk z = true := by
  unfold nameOk at h
  exact strOk_low (Bool.and_eq_true_iff.mp h).2
theorem none_lo (l : Option Nat) : (loV l = .non) ↔ l = none := by
  cases l with
  | none => exact ⟨fun _ => rfl, fun _ => rfl⟩
  | some n => exact ⟨fun h => (by cases h), fun h => (by cases h)⟩
theorem takeLong_len {s : RS} {ps : List (List Nat)} (h : ps.length ≠ 1) : takeLong s ps = none := by
  match ps, h with
  | [], _ => rfl
  | [_], h => exact absurd rfl h
  | _ :: _ :: _, _ => rfl
theorem takeThing_len {s : RS} {ps : List (List Nat)} (h : ps.length ≠ 2) : takeThing s ps = none := by
  match ps, h with
  | [], _ => rfl
  | [_], _ => rfl
  | [_, _], h => exact absurd rfl h
  | _ :: _ :: _ :: _, _ => rfl
theorem takeWord_len {s : RS} {ps : List (List Nat)} (h : ps.length ≠ 1) : takeWord s ps = none := by
  match ps, h with
  | [], _ => rfl
  | [_], h => exact absurd rfl h
  | _ :: _ :: _, _ => rfl
theorem len1' {ps : List (List Nat)} (h : ps.length = 1) : ∃ u, ps = [u] := by
  match ps, h with
  | [u], _ => exact ⟨u, rfl⟩
theorem okm_CaseRows_takes_longest (T : Txt K mg) : Z.M0 P w K mg base 2 (He.ga K "CaseRows") "takes_longest" (sp_tk K takeLong) := by
  refine T.d_CaseRows_takes_longest.m0 T.m_CaseRows_takes_longest scm_CaseRows_takes_longest (fun vs H Q E h => ?_) (Z.bdm fun _ _ _ _ _ _ us hl => match us, hl with | [_, _], _ => rfl) (fun f cdv A outer s H vs Q E hr h => ⟨_, (pss_cons (ps_if (PW.pt (pw_or (pt_cmpR (k_neP K hr.units) (pe_callB (k_len K) rfl T.b_len (by decide +kernel) (pa_cons (pv 1) pa_nil)) pe_int (nomark _)) (pw_or (pt_cmpR op_ltI (pe_callB (k_len K) rfl T.b_len (by decide +kernel) (pa_cons (k_fld K (pv 0) rfl) pa_nil)) (C8.pe_gc rfl T.c_FEWEST_SIGNS_casereader) (nomark _)) (pw_or1 (pt_cmpR op_isNotP (k_fld K (pv 0) rfl) pe_non (nomark _))))))
  (pss_one (ps_ret pe_bl)) pss_nil)
  (pss_cons (ps_set (i := 2) scm_CaseRows_takes_longest.nd rfl (Or.inl rfl) (pe_c0 (ok_whole_in T) hr (by decide) rfl (pa_cons (pe_ix (k_ix K) (pv 1) pe_int (fun _ _ => rfl)) (pa_cons pe_int pa_nil))))
  (pss_cons (ps_if (PW.pt (pw_or (pt_cmpR op_isP (pv 2) pe_non (nomark _)) (pw_or1 (pt_not (pt_chain op_leI op_leI pe_int (pv 2) (C8.pe_gc rfl T.c_GREATEST_LONGEST))))))
  (pss_one (ps_ret pe_bl)) pss_nil)
  (pss_cons (ps_fld (pv 0) (pv 2) rfl)
  (pss_one (ps_ret pe_bl)))))), ?_⟩)
  · obtain ⟨F, o, dx, a1, a2, a3, a4, a5, xs, ys, s, n, p, ps, rfl, _⟩ := h
    rfl
  · obtain ⟨F, o, dx, a1, a2, a3, a4, a5, xs, ys, s, n, p, ps, rfl, R, k, hn, hp, hps, q⟩ := h
    rw [stm_CaseRows_takes_longest]
    walk_at "st"
    have no : ∀ F' H' xs' ys', takeLong s ps = none → Mv [o, a1, a2, a3, a4, a5] F H F' H' → RsA K F' H' o dx a1 a2 a3 a4 a5 xs' ys' s → Q (.bl false) H' := fun F' H' xs' ys' e m r => by
      have := q F' H' xs' ys' m
      rw [e] at this
      exact this r
    have ho := R.ob
    have hx := R.h1
    have hp' := R.z.get hp
    have hxl : xs.length = s.sg.length := by rw [R.d1.length, List.length_map]
    have hlen : ((ps.map S).map V.str).length = ps.length := by rw [List.length_map, List.length_map]
    walk_at "rd"
    rw [hlen]
    refine r_nite (fun hl => ?_) (fun hl => ?_)
    · walk_at "rd"
      exact no F H xs ys (takeLong_len (by omega)) Mv.rfl' R
    obtain ⟨u, rfl⟩ := len1' (ps := ps) (by omega)
    have hu := hps u (by simp)
    have a0 : atI (([u].map S).map V.str) 0 = some (.str (S u)) := rfl
    walk_at "rd"
    rw [hxl]
    refine r_ite (fun h1 => ?_) (fun h1 => ?_)
    · walk_at "rd"
      exact no F H xs ys (if_neg fun h => by omega) Mv.rfl' R
    walk_at "rd"
    cases hlo : s.lo with
    | some k =>
      rw [show loV (some k) = V.int (k : Nat) from rfl]
      walk_at "rd"
      exact no F H xs ys (if_neg fun h => by rw [hlo] at h; cases h.2) Mv.rfl' R
    | none =>
    rw [show loV none = V.non from rfl]
    walk_at "rd"
    refine ⟨u, 1, rfl, by decide, by omega, fun H1 s1 => ?_⟩
    have R1 := R.ext (R.z.same s1)
    have m1 : Mv [o, a1, a2, a3, a4, a5] F H F H1 := ⟨Same.refl _, fun _ _ _ e => s1 _ _ e⟩
    have et : takeLong s [u] = (match wholeIn u 1 with
      | some n => if 1 ≤ n ∧ n ≤ 8 then some { s with lo := some n } else none
      | none => none) := if_pos ⟨by omega, hlo⟩
    have ho1 := R1.ob
    clear ho hx hp'
    cases hw : wholeIn u 1 with
    | none =>
      rw [show oI none = V.non from rfl]
      walk_at "rd"
      exact no F H1 xs ys (by rw [et, hw]) m1 R1
    | some m =>
    rw [show oI (some m) = V.int (m : Nat) from rfl]
    have no2 : ¬ (1 ≤ m ∧ m ≤ 8) → Q (.bl false) H1 := fun h => no F H1 xs ys (by rw [et, hw]; exact if_neg h) m1 R1
    walk_at "rd"
    refine r_ite (fun h2 => ?_) (fun h2 => ?_)
    · walk_at "rd"
      refine r_nite (fun h3 => ?_) (fun h3 => ?_)
      · walk_at "rd"
        exact no2 (by omega)
      · walk_at "rd"
        intro H2 b2 f2
        walk_at "rd"
        have e : takeLong s [u] = some { s with lo := some m } := by
          rw [et, hw]
          exact if_pos ⟨by omega, by omega⟩
        rw [e] at q
        exact q F H2 xs ys (m1.tr (.but (by simp) b2)) (R1.lng b2 f2)
    · walk_at "rd"
      exact no2 (by omega)
theorem okm_CaseRows_takes_thing (T : Txt K mg) : Z.M0 P w K mg base 2 (He.ga K "CaseRows") "takes_thing" (sp_tk K takeThing) := by
  refine T.d_CaseRows_takes_thing.m0 T.m_CaseRows_takes_thing scm_CaseRows_takes_thing (fun vs H Q E h => ?_) (Z.bdm fun _ _ _ _ _ _ us hl => match us, hl with | [_, _], _ => rfl) (fun f cdv A outer s H vs Q E hr h => ⟨_, (pss_cons (ps_if (PW.pt (pw_or (pt_cmpR (k_neP K hr.units) (pe_callB (k_len K) rfl T.b_len (by decide +kernel) (pa_cons (pv 1) pa_nil)) pe_int (nomark _)) (pw_or (pt_cmpR op_isP (k_fld K (pv 0) rfl) pe_non (nomark _)) (pw_or (pt_cmpR (k_neP K hr.units) (k_fld K (pv 0) rfl) (pe_lst pa_nil) (nomark _)) (pw_or1 (pt_cmpR (k_eqP K hr.units) (pe_callB (k_len K) rfl T.b_len (by decide +kernel) (pa_cons (k_fld K (pv 0) rfl) pa_nil)) (C8.pe_gc rfl T.c_MOST_THINGS_casereader) (nomark _)))))))
  (pss_one (ps_ret pe_bl)) pss_nil)
  (pss_cons (ps_set (i := 2) scm_CaseRows_takes_thing.nd rfl (Or.inl rfl) (pe_c0 (ok_whole_in T) hr (by decide) rfl (pa_cons (pe_ix (k_ix K) (pv 1) pe_int (fun _ _ => rfl)) (pa_cons (C8.pe_gc rfl T.c_COUNT_FIGURES) pa_nil))))
  (pss_cons (ps_if (PW.pt (pw_or (pt_cmpR op_isP (pv 2) pe_non (nomark _)) (pw_or (pt_cmpR op_gtI (pv 2) (C8.pe_gc rfl T.c_GREATEST_COUNT_casereader) (nomark _)) (pw_or1 (pt_not (pt_val (pe_c0 (ok_is_name T) hr (by decide) rfl (pa_cons (pe_ix (k_ix K) (pv 1) pe_int (fun _ _ => rfl)) pa_nil))))))))
  (pss_one (ps_ret pe_bl)) pss_nil)
  (pss_cons (ps_if (pt_cmpR (k_inP K) (pe_ix (k_ix K) (pv 1) pe_int (fun _ _ => rfl)) (pe_lc (own := [("name", 3), ("many", 4)]) rfl scm_CaseRows_takes_thing.nd (k_iL K (k_fld K (pv 0) rfl)) (blkOk_by (N := ["self", "parts", "count", "name", "many"]) (sc := defScope sm_CaseRows_takes_thing) (by decide +kernel)) (fun _ _ _ _ _ => (k_tup (n := 2) K rfl (pgs_cons (pg_name (i := 3) scm_CaseRows_takes_thing.nd rfl (Or.inl rfl)) (pgs_cons (pg_name (i := 4) scm_CaseRows_takes_thing.nd rfl (Or.inl rfl)) pgs_nil)))) (fun _ _ _ _ _ => pts_nil) (fun _ _ _ _ _ => (pv 3))) (by rfl))
  (pss_one (ps_ret pe_bl)) pss_nil)
  (pss_cons (ps_expr (k_bm K PySem.F.plainAttrs_list PySem.F.slot_list_append PySem.F.type_list_append mt_append (k_fld K (pv 0) rfl) (pa_cons (pe_tup (pa_cons (pe_ix (k_ix K) (pv 1) pe_int (fun _ _ => rfl)) (pa_cons (pv 2) pa_nil))) pa_nil)))
  (pss_one (ps_ret pe_bl))))))), ?_⟩)
  · obtain ⟨F, o, dx, a1, a2, a3, a4, a5, xs, ys, s, n, p, ps, rfl, _⟩ := h
    rfl
  · obtain ⟨F, o, dx, a1, a2, a3, a4, a5, xs, ys, s, n, p, ps, rfl, R, k, hn, hp, hps, q⟩ := h
    rw [stm_CaseRows_takes_thing]
    walk_at "st"
    have no : ∀ F' H' xs' ys', takeThing s ps = none → Mv [o, a1, a2, a3, a4, a5] F H F' H' → RsA K F' H' o dx a1 a2 a3 a4 a5 xs' ys' s → Q (.bl false) H' := fun F' H' xs' ys' e m r => by
      have := q F' H' xs' ys' m
      rw [e] at this
      exact this r
    have ho := R.ob
    have h5 := R.h5
    have hp' := R.z.get hp
    have hlen : ((ps.map S).map V.str).length = ps.length := by rw [List.length_map, List.length_map]
    walk_at "rd"
    rw [hlen]
    refine r_nite (fun hl => ?_) (fun hl => ?_)
    · walk_at "rd"
      exact no F H xs ys (takeThing_len (by omega)) Mv.rfl' R
    obtain ⟨u, w, rfl⟩ : ∃ u w, ps = [u, w] := by
      match ps, hl with
      | [u, w], _ => exact ⟨u, w, rfl⟩
    have hu := hps u (by simp)
    have hw := hps w (by simp)
    have a0 : atI (([u, w].map S).map V.str) 0 = some (.str (S u)) := rfl
    have a1' : atI (([u, w].map S).map V.str) 1 = some (.str (S w)) := rfl
    walk_at "rd"
    cases hlo : s.lo with
    | none =>
      rw [show loV none = V.non from rfl]
      walk_at "rd"
      exact no F H xs ys (if_neg fun h => h.1 hlo) Mv.rfl' R
    | some lo =>
    rw [show loV (some lo) = V.int (lo : Nat) from rfl]
    walk_at "rd"
    intro l1 H1 n1 s1 f1
    have R1 := R.ext (R.z.same s1)
    have m1 : Mv [o, a1, a2, a3, a4, a5] F H F H1 := ⟨Same.refl _, fun _ _ _ e => s1 _ _ e⟩
    refine r_neD (d := .list (s.bk.map PyData.str)) (e := .list []) (.lst (sqL R1.h5) (dp_strs _)) (.lst (sqL f1) .nil) ?_ (shaped_strs fun z hz => name_str (k.k8 z hz)) (by decide +kernel)
    rw [eqv_nil]
    have ho1 := R1.ob
    have h4 := R1.h4
    have hp1 := R1.z.get hp
    have hyl : ys.length = s.ws.length := by rw [R.d4.length, len_wsD]
    clear ho h5 hp' s1 n1 f1
    walk_at "rd"
    refine r_nite (fun hb => ?_) (fun hb => ?_)
    · walk_at "rd"
      exact no F H1 xs ys (if_neg fun h => hb h.2.1) m1 R1
    walk_at "rd"
    rw [hyl]
    refine r_ite (fun h20 => ?_) (fun h20 => ?_)
    · walk_at "rd"
      exact no F H1 xs ys (if_neg fun h => by omega) m1 R1
    have et : takeThing s [u, w] = (match wholeIn w 10 with
      | some n => if n ≤ 1000000000 ∧ nameOk (S u) = true ∧ S u ∉ s.ws.map (·.1) then some { s with ws := s.ws ++ [(S u, n)] } else none
      | none => none) := if_pos ⟨by rw [hlo]; simp, hb, by omega⟩
    walk_at "rd"
    refine ⟨w, 10, rfl, by decide, by omega, fun H2 s2 => ?_⟩
    have R2 := R1.ext (R1.z.same s2)
    have m2 : Mv [o, a1, a2, a3, a4, a5] F H F H2 := m1.tr ⟨Same.refl _, fun _ _ _ e => s2 _ _ e⟩
    have hp2 := R2.z.get hp
    clear ho1 h4 hp1 s2
    cases hww : wholeIn w 10 with
    | none =>
      rw [show oI none = V.non from rfl]
      walk_at "rd"
      exact no F H2 xs ys (by rw [et, hww]) m2 R2
    | some c =>
    rw [show oI (some c) = V.int (c : Nat) from rfl]
    have no2 : ∀ H', ¬ (c ≤ 1000000000 ∧ nameOk (S u) = true ∧ S u ∉ s.ws.map (·.1)) → Mv [o, a1, a2, a3, a4, a5] F H F H' → RsA K F H' o dx a1 a2 a3 a4 a5 xs ys s → Q (.bl false) H' := fun H' h m r => no F H' xs ys (by rw [et, hww]; exact if_neg h) m r
    walk_at "rd"
    refine r_ite (fun hc => ?_) (fun hc => ?_)
    · walk_at "rd"
      exact no2 H2 (fun h => by omega) m2 R2
    walk_at "rd"
    refine ⟨_, _, rfl, .str _ (by rw [M.S_len]; omega), fun H3 s3 => ?_⟩
    have R3 := R2.ext (R2.z.same s3)
    have m3 : Mv [o, a1, a2, a3, a4, a5] F H F H3 := m2.tr ⟨Same.refl _, fun _ _ _ e => s3 _ _ e⟩
    rw [show isName (.str (S u)) = nameOk (S u) from rfl]
    have hp3 := R3.z.get hp
    have ho3 := R3.ob
    have h43 := R3.h4
    clear hp2 s3
    cases hnm : nameOk (S u) with
    | false =>
      walk_at "rd"
      exact no2 H3 (fun h => by rw [hnm] at h; cases h.2.1) m3 R3
    | true =>
    walk_at "rd"
    refine lcW (walk_list (xs := ys)) (fun i acc _ => acc = ((s.ws.take i).map fun w => w.1).map V.str) rfl (fun _ e => sqL (e _ _ h43)) (fun _ _ => rfl) ?_ ?_
    · rintro i x acc Dl G1 G2 hi hD g1 g2 hl2 rfl y
      obtain ⟨rfl, hx⟩ := y
      have hi2 : i < s.ws.length := by omega
      obtain rfl : ys[i] = x := Option.some.inj ((List.getElem?_eq_getElem hi).symm.trans hx)
      have gi := (R3.d4.up (R3.z.s.trans g1)).get i hi (by rw [len_wsD]; exact hi2)
      have e0 : (wsD s.ws)[i]'(by rw [len_wsD]; exact hi2) = wantD s.ws[i] := List.getElem_map wantD
      rw [e0] at gi
      obtain ⟨Tw, ex, hTw⟩ := want_tup gi
      rw [ex]
      have tk : s.ws.take (i + 1) = s.ws.take i ++ [s.ws[i]] := (List.take_append_getElem hi2).symm
      have k4 := k.k4
      walk_at "rd"
      refine lc_put (by omega) hD g1 g2 hl2 fun H5 _ _ => ?_
      rw [tk, List.map_append, List.map_append]
      rfl
    rintro acc Dl H4 hD s4 f4 rfl
    rw [hyl, List.take_length] at f4
    have R4 := R3.ext (R3.z.same s4)
    have m4 : Mv [o, a1, a2, a3, a4, a5] F H F H4 := m3.tr ⟨Same.refl _, fun _ _ _ e => s4 _ _ e⟩
    have hp4 := R4.z.get hp
    have ho4 := R4.ob
    have h44 := R4.h4
    have hfl := flat_strs (s.ws.map fun w => w.1)
    clear hp3 ho3 h43 s4
    walk_at "rd"
    rw [inV_strs]
    refine r_ite (fun hm => ?_) (fun hm => ?_)
    · walk_at "rd"
      exact no2 H4 (fun h => h.2.2 hm) m4 R4
    have hyl2 : ys.length < 16777216 := by
      have := k.k4
      omega
    walk_at "rd"
    intro T5 H5 n5 s5 f5
    obtain ⟨e5, q5⟩ := R4.z.new n5 s5 f5
    have R5 := R4.ext e5
    have h45 := R5.h4
    walk_at "rd"
    intro H6 b6 f6
    walk_at "rd"
    have e : takeThing s [u, w] = some { s with ws := s.ws ++ [(S u, c)] } := by
      rw [et, hww]
      exact if_pos ⟨by omega, hnm, hm⟩
    rw [e] at q
    have dT : Dq (upd F T5 (.tup [.str (S u), .int (c : Nat)])) (.ref T5) (wantD (S u, c)) := .tup q5 (.cons (.str _ (by rw [M.S_len]; omega)) (.cons (.int _) .nil)) (by simp)
    exact q _ H6 xs _ ((m4.tr (.ext e5)).tr (.but (by simp) b6)) (R5.thi dT b6 f6)
theorem okm_CaseRows_takes_word (T : Txt K mg) : Z.M0 P w K mg base 2 (He.ga K "CaseRows") "takes_word" (sp_tk K takeWord) := by
  refine T.d_CaseRows_takes_word.m0 T.m_CaseRows_takes_word scm_CaseRows_takes_word (fun vs H Q E h => ?_) (Z.bdm fun _ _ _ _ _ _ us hl => match us, hl with | [_, _], _ => rfl) (fun f cdv A outer s H vs Q E hr h => ⟨_, (pss_cons (ps_if (PW.pt (pw_or (pt_cmpR (k_neP K hr.units) (pe_callB (k_len K) rfl T.b_len (by decide +kernel) (pa_cons (pv 1) pa_nil)) pe_int (nomark _)) (pw_or (pt_cmpR op_geI (pe_callB (k_len K) rfl T.b_len (by decide +kernel) (pa_cons (k_fld K (pv 0) rfl) pa_nil)) (pe_callB (k_len K) rfl T.b_len (by decide +kernel) (pa_cons (k_fld K (pv 0) rfl) pa_nil)) (nomark _)) (pw_or1 (pt_not (pt_val (pe_c0 (ok_is_name T) hr (by decide) rfl (pa_cons (pe_ix (k_ix K) (pv 1) pe_int (fun _ _ => rfl)) pa_nil))))))))
  (pss_one (ps_ret pe_bl)) pss_nil)
  (pss_cons (ps_expr (k_bm K PySem.F.plainAttrs_list PySem.F.slot_list_append PySem.F.type_list_append mt_append (k_fld K (pv 0) rfl) (pa_cons (pe_ix (k_ix K) (pv 1) pe_int (fun _ _ => rfl)) pa_nil)))
  (pss_one (ps_ret pe_bl)))), ?_⟩)
  · obtain ⟨F, o, dx, a1, a2, a3, a4, a5, xs, ys, s, n, p, ps, rfl, _⟩ := h
    rfl
  · obtain ⟨F, o, dx, a1, a2, a3, a4, a5, xs, ys, s, n, p, ps, rfl, R, k, hn, hp, hps, q⟩ := h
    rw [stm_CaseRows_takes_word]
    walk_at "st"
    have no : ∀ F' H' xs' ys', takeWord s ps = none → Mv [o, a1, a2, a3, a4, a5] F H F' H' → RsA K F' H' o dx a1 a2 a3 a4 a5 xs' ys' s → Q (.bl false) H' := fun F' H' xs' ys' e m r => by
      have := q F' H' xs' ys' m
      rw [e] at this
      exact this r
    have ho := R.ob
    have h4 := R.h4
    have h5 := R.h5
    have hp' := R.z.get hp
    have hyl : ys.length = s.ws.length := by rw [R.d4.length, len_wsD]
    have hbl : (s.bk.map V.str).length = s.bk.length := List.length_map _
    have hlen : ((ps.map S).map V.str).length = ps.length := by rw [List.length_map, List.length_map]
    walk_at "rd"
    rw [hlen]
    refine r_nite (fun hl => ?_) (fun hl => ?_)
    · walk_at "rd"
      exact no F H xs ys (takeWord_len (by omega)) Mv.rfl' R
    obtain ⟨u, rfl⟩ := len1' (ps := ps) (by omega)
    have hu := hps u (by simp)
    have a0 : atI (([u].map S).map V.str) 0 = some (.str (S u)) := rfl
    walk_at "rd"
    rw [hyl, hbl]
    refine r_ite (fun h1 => ?_) (fun h1 => ?_)
    · walk_at "rd"
      exact no F H xs ys (if_neg fun h => by omega) Mv.rfl' R
    walk_at "rd"
    refine ⟨_, _, rfl, .str _ (by rw [M.S_len]; omega), fun H1 s1 => ?_⟩
    have R1 := R.ext (R.z.same s1)
    have m1 : Mv [o, a1, a2, a3, a4, a5] F H F H1 := ⟨Same.refl _, fun _ _ _ e => s1 _ _ e⟩
    have ho1 := R1.ob
    have g5 := R1.h5
    have hp1 := R1.z.get hp
    have k5 := k.k5
    clear ho h4 h5 hp'
    rw [show isName (.str (S u)) = nameOk (S u) from rfl]
    cases hnm : nameOk (S u) with
    | false =>
      walk_at "rd"
      exact no F H1 xs ys (if_neg fun h => by rw [hnm] at h; cases h.2) m1 R1
    | true =>
    walk_at "rd"
    intro H2 b2 f2
    walk_at "rd"
    have e : takeWord s [u] = some { s with bk := s.bk ++ [S u] } := if_pos ⟨by omega, hnm⟩
    rw [e] at q
    exact q F H2 xs ys (m1.tr (.but (by simp) b2)) (R1.wor b2 f2)
end
end My

namespace My
open PySem PySem.Spec PyProof.Rows L2 Z M SX TL
section
variable {P : Program} {w : World} {K : PySem.W.Frag} {mg : Str → Option Value} {base : Heap}
/-! ### a case's rows, taken -/
theorem spW1 {a : List Nat} (h : 32 ∉ a) : spW a = [a] := by
  show spl [32] 0 [] a = _
  rw [spl_last1 h]
  rfl
theorem spW2 {a r : List Nat} (h : 32 ∉ a) : spW (a ++ 32 :: r) = a :: spW r := by
  have e := spl_part1 (s := 32) (S := []) (p := a) (rest := r) (acc := []) h
  simpa using e
def lastL : Option (Nat × Nat) → List Nat
  | none => [45]
  | some p => fracL (p.1 : Nat) p.2
theorem lastS_L (l : Option (Nat × Nat)) : tl (lastS l) = lastL l := by
  cases l with
  | none => show tl (Str.ofString "-") = [45]; decide +kernel
  | some p => rfl
def wd (z : Str) : List Nat := tl z
theorem S_wd (z : Str) : S (wd z) = z := mk_tl z
theorem frac_free {c : Nat} (h : c < 45 ∨ 57 < c) (n d : Nat) : c ∉ fracL (n : Nat) d := by
  unfold fracL
  rw [intL_nat]
  have h1 : c ∉ numL n := numL_free (by omega)
  have h2 : c ∉ numL d := numL_free (by omega)
  split
  · exact h1
  · intro m
    rcases List.mem_append.mp m with m | m
    · exact h1 m
    · rcases List.mem_cons.mp m with rfl | m
      · omega
      · exact h2 m
theorem last_free {c : Nat} (h : c < 45 ∨ 57 < c) (l : Option (Nat × Nat)) : c ∉ lastL l := by
  cases l with
  | none =>
    intro m
    rcases List.mem_singleton.mp m with rfl
    omega
  | some p => exact frac_free h _ _
theorem low_ne {c x : Nat} (h : low c = true) (hx : x < 97 ∨ 122 < x) : c ≠ x := by
  have := of_decide_eq_true h
  omega
theorem tl_wd (z : Str) (s : Str) (h : tl s = tl z ++ [32]) : tl s = wd z ++ [32] := h
theorem tl_signS (s : Sg) : tl (signS s) = wd (Str.ofString "sign") ++ 32 :: ([s.c] ++ 32 :: (fracL (s.p.1 : Nat) s.p.2 ++ 32 :: lastL s.l)) := by
  unfold signS
  simp only [tl_append, lastS_L]
  rw [show tl (Str.ofString "sign ") = wd (Str.ofString "sign") ++ [32] by decide +kernel, show tl (Str.ofString " ") = [32] by decide +kernel, show tl (S [s.c]) = [s.c] from rfl, show tl (fracS s.p) = fracL (s.p.1 : Nat) s.p.2 from rfl]
  simp
theorem sp_signS {s : Sg} (h : SgOk s) : spW (tl (signS s)) = [wd (Str.ofString "sign"), [s.c], fracL (s.p.1 : Nat) s.p.2, lastL s.l] := by
  rw [tl_signS, spW2 (by decide +kernel), spW2 (by intro m; exact low_ne h.c (by omega) (List.mem_singleton.mp m).symm), spW2 (frac_free (by omega) _ _), spW1 (last_free (by omega) _)]
theorem price_back {p : Nat × Nat} (h : FrOk p) : priceIn (fracL (p.1 : Nat) p.2) = some p := by
  have h1 := h.t1
  have h2 := h.b1
  have e : fracIn (fracL ((p.1 : Nat) : Int) p.2) 9 = some (((p.1 : Nat) : Int), p.2) := frac_back (by rw [Int.natAbs_natCast]; exact numL_len (by decide) h.t2) (numL_len (by decide) h.b2) (by omega) (by rw [Int.natAbs_natCast]; exact h.g)
  unfold priceIn
  rw [e]
  show (if 0 < ((p.1 : Nat) : Int) then some ((((p.1 : Nat) : Int)).toNat, p.2) else none) = _
  rw [if_pos (by omega), Int.toNat_natCast]
theorem last_back {s : Sg} (h : SgOk s) : priceIn (lastL s.l) = s.l := by
  cases e : s.l with
  | none => rfl
  | some p => exact price_back (h.l p e)
/-- which row -/
theorem by_sign (s : RS) (ps : List (List Nat)) : takeBy s (wd (Str.ofString "sign")) ps = takeSign s ps := by
  unfold takeBy
  rw [S_wd, if_pos rfl]
theorem by_first (s : RS) (ps : List (List Nat)) : takeBy s (wd (Str.ofString "first")) ps = takeFirst s ps := by
  unfold takeBy
  rw [S_wd, if_neg (by decide +kernel), if_pos rfl]
theorem by_pair (s : RS) (ps : List (List Nat)) : takeBy s (wd (Str.ofString "pair")) ps = takePair s ps := by
  unfold takeBy
  rw [S_wd, if_neg (by decide +kernel), if_neg (by decide +kernel), if_pos rfl]
theorem by_long (s : RS) (ps : List (List Nat)) : takeBy s (wd (Str.ofString "longest")) ps = takeLong s ps := by
  unfold takeBy
  rw [S_wd, if_neg (by decide +kernel), if_neg (by decide +kernel), if_neg (by decide +kernel), if_pos rfl]
theorem by_thing (s : RS) (ps : List (List Nat)) : takeBy s (wd (Str.ofString "thing")) ps = takeThing s ps := by
  unfold takeBy
  rw [S_wd, if_neg (by decide +kernel), if_neg (by decide +kernel), if_neg (by decide +kernel), if_neg (by decide +kernel), if_pos rfl]
theorem by_word (s : RS) (ps : List (List Nat)) : takeBy s (wd (Str.ofString "word")) ps = takeWord s ps := by
  unfold takeBy
  rw [S_wd, if_neg (by decide +kernel), if_neg (by decide +kernel), if_neg (by decide +kernel), if_neg (by decide +kernel), if_neg (by decide +kernel), if_pos rfl]
theorem row_of {s : RS} {r k : List Nat} {ps : List (List Nat)} (h : spW r = k :: ps) : takeRow s r = takeBy s k ps := by
  unfold takeRow
  rw [h]
  rfl
theorem take_signS {s : RS} {x : Sg} (h : SgOk x) (e1 : s.fi = []) (e2 : s.pa = []) (e3 : s.lo = none) (e4 : s.sg.length < 6) (e5 : x.c ∉ s.ls) : takeRow s (tl (signS x)) = some { s with sg := s.sg ++ [x] } := by
  rw [row_of (sp_signS h), by_sign]
  show (if s.fi = [] ∧ s.pa = [] ∧ s.lo = none then (if s.sg.length ≠ 6 ∧ low x.c = true ∧ x.c ∉ s.ls then (match priceIn (fracL (x.p.1 : Nat) x.p.2) with
      | some a => if priceIn (lastL x.l) = none ∧ lastL x.l ≠ [45] then none else some { s with sg := s.sg ++ [Sg.mk x.c a (priceIn (lastL x.l))] }
      | none => none) else none) else none) = _
  rw [if_pos ⟨e1, e2, e3⟩, if_pos ⟨by omega, h.c, e5⟩, price_back h.p, last_back h]
  dsimp only
  rw [if_neg]
  rintro ⟨h1, h2⟩
  rw [h1] at h2
  exact h2 rfl
theorem firsts_tl (z : Str) (l : List Nat) (e : z = S l) : tl (Str.ofString "first " ++ z) = wd (Str.ofString "first") ++ 32 :: l := by
  subst e
  rw [tl_append, show tl (Str.ofString "first ") = wd (Str.ofString "first") ++ [32] by decide +kernel]
  simp [S]
theorem pair_tl (z : Str) (l : List Nat) (e : z = S l) : tl (Str.ofString "pair " ++ z) = wd (Str.ofString "pair") ++ 32 :: l := by
  subst e
  rw [tl_append, show tl (Str.ofString "pair ") = wd (Str.ofString "pair") ++ [32] by decide +kernel]
  simp [S]
theorem word_tl (z : Str) (l : List Nat) (e : z = S l) : tl (Str.ofString "word " ++ z) = wd (Str.ofString "word") ++ 32 :: l := by
  subst e
  rw [tl_append, show tl (Str.ofString "word ") = wd (Str.ofString "word") ++ [32] by decide +kernel]
  simp [S]
theorem open_ok {s : RS} {n : Nat} {p : List Nat} (h1 : 2 ≤ s.sg.length) (h2 : s.lo = none) (h3 : p.length = n) (h4 : ∀ c ∈ p, c ∈ s.ls) : openOk s n [p] = true := by
  show (decide (2 ≤ s.sg.length) && decide (s.lo = none) && (decide (p.length = n) && p.all fun c => decide (c ∈ s.ls))) = true
  rw [decide_eq_true h1, decide_eq_true h2, decide_eq_true h3]
  simp only [Bool.true_and]
  exact List.all_eq_true.mpr fun c hc => decide_eq_true (h4 c hc)
theorem take_first {s : RS} {c : Nat} (h1 : 2 ≤ s.sg.length) (h2 : s.lo = none) (h3 : c ∈ s.ls) (hc : low c = true) (h4 : s.pa = []) (h5 : S [c] ∉ s.fi) : takeRow s (tl (Str.ofString "first " ++ S [c])) = some { s with fi := s.fi ++ [S [c]] } := by
  rw [row_of (k := wd (Str.ofString "first")) (ps := [[c]]) (by rw [firsts_tl _ _ rfl, spW2 (by decide +kernel), spW1 (by intro m; exact low_ne hc (by omega) (List.mem_singleton.mp m).symm)]), by_first]
  unfold takeFirst
  rw [if_pos ⟨open_ok h1 h2 rfl (fun d hd => by rw [List.mem_singleton.mp hd]; exact h3), h4, h5⟩]
  rfl
theorem take_pair {s : RS} {a b : Nat} (h1 : 2 ≤ s.sg.length) (h2 : s.lo = none) (h3 : a ∈ s.ls) (h3' : b ∈ s.ls) (ha : low a = true) (hb : low b = true) (h5 : S [a, b] ∉ s.pa) : takeRow s (tl (Str.ofString "pair " ++ S [a, b])) = some { s with pa := s.pa ++ [S [a, b]] } := by
  have hf : 32 ∉ [a, b] := fun m => by
    simp only [List.mem_cons, List.not_mem_nil, or_false] at m
    rcases m with m | m
    · exact low_ne ha (by omega) m.symm
    · exact low_ne hb (by omega) m.symm
  rw [row_of (k := wd (Str.ofString "pair")) (ps := [[a, b]]) (by rw [pair_tl _ _ rfl, spW2 (by decide +kernel), spW1 hf]), by_pair]
  unfold takePair
  rw [if_pos ⟨open_ok h1 h2 rfl (fun d hd => by
    simp only [List.mem_cons, List.not_mem_nil, or_false] at hd
    rcases hd with rfl | rfl
    · exact h3
    · exact h3'), h5⟩]
  rfl
theorem tl_numS (n : Nat) : tl (Str.ofString (toString ((n : Nat) : Int))) = numL n := by
  rw [int_S', intL_nat]
  all_goals rfl
theorem tl_longS (n : Nat) : tl (longS n) = wd (Str.ofString "longest") ++ 32 :: numL n := by
  unfold longS
  rw [tl_append, tl_numS, show tl (Str.ofString "longest ") = wd (Str.ofString "longest") ++ [32] by decide +kernel]
  simp
theorem take_long {s : RS} {n : Nat} (h1 : 2 ≤ s.sg.length) (h2 : s.lo = none) (h3 : 1 ≤ n) (h4 : n ≤ 8) : takeRow s (tl (longS n)) = some { s with lo := some n } := by
  rw [row_of (k := wd (Str.ofString "longest")) (ps := [numL n]) (by rw [tl_longS, spW2 (by decide +kernel), spW1 (numL_free (by omega))]), by_long]
  show (if 2 ≤ s.sg.length ∧ s.lo = none then (match wholeIn (numL n) 1 with
    | some n => if 1 ≤ n ∧ n ≤ 8 then some { s with lo := some n } else none
    | none => none) else none) = _
  rw [if_pos ⟨h1, h2⟩, wholeIn_num (numL_len (by decide) (by omega))]
  dsimp only
  rw [if_pos ⟨h3, h4⟩]
theorem tl_thingS (w : Str × Nat) : tl (thingS w) = wd (Str.ofString "thing") ++ 32 :: (tl w.1 ++ 32 :: numL w.2) := by
  unfold thingS
  simp only [tl_append, tl_numS]
  rw [show tl (Str.ofString "thing ") = wd (Str.ofString "thing") ++ [32] by decide +kernel, show tl (Str.ofString " ") = [32] by decide +kernel]
  simp
theorem name_free {z : Str} (h : nameOk z = true) {c : Nat} (hc : c < 97 ∨ 122 < c) : c ∉ tl z := fun m => by
  unfold nameOk at h
  rw [Bool.and_eq_true_iff] at h
  exact low_ne (List.all_eq_true.mp h.2 c m) hc rfl
theorem take_thing {s : RS} {w : Str × Nat} (hn : nameOk w.1 = true) (hc : w.2 ≤ 1000000000) (h1 : s.lo ≠ none) (h2 : s.bk = []) (h3 : s.ws.length < 20) (h4 : w.1 ∉ s.ws.map (·.1)) : takeRow s (tl (thingS w)) = some { s with ws := s.ws ++ [w] } := by
  rw [row_of (k := wd (Str.ofString "thing")) (ps := [tl w.1, numL w.2]) (by rw [tl_thingS, spW2 (by decide +kernel), spW2 (name_free hn (by omega)), spW1 (numL_free (by omega))]), by_thing]
  show (if s.lo ≠ none ∧ s.bk = [] ∧ s.ws.length ≠ 20 then (match wholeIn (numL w.2) 10 with
    | some n => if n ≤ 1000000000 ∧ nameOk (S (tl w.1)) = true ∧ S (tl w.1) ∉ s.ws.map (·.1) then some { s with ws := s.ws ++ [(S (tl w.1), n)] } else none
    | none => none) else none) = _
  rw [if_pos ⟨h1, h2, by omega⟩, wholeIn_num (numL_len (by decide) (by omega))]
  dsimp only
  rw [show S (tl w.1) = w.1 from mk_tl _, if_pos ⟨hc, hn, h4⟩]
theorem take_word {s : RS} {z : Str} (hn : nameOk z = true) (h : s.bk.length < s.ws.length) : takeRow s (tl (Str.ofString "word " ++ z)) = some { s with bk := s.bk ++ [z] } := by
  rw [row_of (k := wd (Str.ofString "word")) (ps := [tl z]) (by rw [word_tl z (tl z) (mk_tl z).symm, spW2 (by decide +kernel), spW1 (name_free hn (by omega))]), by_word]
  show (if s.bk.length < s.ws.length ∧ nameOk (S (tl z)) = true then some { s with bk := s.bk ++ [S (tl z)] } else none) = _
  rw [show S (tl z) = z from mk_tl _, if_pos ⟨h, hn⟩]
/-! all of a kind -/
theorem rr_cons {s s' : RS} {r : List Nat} {i : Nat} {rs : List (List Nat)} (h : takeRow s r = some s') : readRows s i (r :: rs) = readRows s' (i + 1) rs := by
  show (match takeRow s r with | none => _ | some s' => _) = _
  rw [h]
theorem rr_signs : ∀ (l acc : List Sg) (i : Nat) (rest : List (List Nat)), (∀ x ∈ l, SgOk x) → (acc ++ l).length ≤ 6 → ((acc ++ l).map Sg.c).Nodup →
    readRows ⟨acc, [], [], none, [], []⟩ i (l.map (fun x => tl (signS x)) ++ rest) = readRows ⟨acc ++ l, [], [], none, [], []⟩ (i + l.length) rest
  | [], acc, i, rest, _, _, _ => by simp
  | x :: l, acc, i, rest, h1, h2, h3 => by
    rw [List.length_append, List.length_cons] at h2
    have h4 : x.c ∉ acc.map Sg.c := fun m => by
      rw [List.map_append, List.map_cons] at h3
      have := (List.nodup_append.mp h3).2.2 _ m x.c List.mem_cons_self
      exact this rfl
    rw [List.map_cons, List.cons_append, rr_cons (take_signS (s := ⟨acc, [], [], none, [], []⟩) (h1 x List.mem_cons_self) rfl rfl rfl (by show acc.length < 6; omega) h4)]
    rw [rr_signs l (acc ++ [x]) (i + 1) rest (fun y hy => h1 y (List.mem_cons_of_mem _ hy)) (by simp; omega) (by rw [List.append_assoc]; exact h3)]
    rw [List.append_assoc, List.length_cons, show i + 1 + l.length = i + (l.length + 1) by omega]
    rfl
theorem rr_firsts (sg : List Sg) (hs : 2 ≤ sg.length) : ∀ (l acc : List Str) (i : Nat) (rest : List (List Nat)), (∀ z ∈ l, ∃ c, z = S [c] ∧ c ∈ sg.map Sg.c ∧ low c = true) → (acc ++ l).Nodup →
    readRows ⟨sg, acc, [], none, [], []⟩ i (l.map (fun z => tl (Str.ofString "first " ++ z)) ++ rest) = readRows ⟨sg, acc ++ l, [], none, [], []⟩ (i + l.length) rest
  | [], acc, i, rest, _, _ => by simp
  | z :: l, acc, i, rest, h1, h3 => by
    have h4 : z ∉ acc := fun m => (List.nodup_append.mp h3).2.2 _ m z List.mem_cons_self rfl
    obtain ⟨c, rfl, hc, hl⟩ := h1 z List.mem_cons_self
    rw [List.map_cons, List.cons_append, rr_cons (take_first (s := ⟨sg, acc, [], none, [], []⟩) hs rfl hc hl rfl h4)]
    rw [rr_firsts sg hs l (acc ++ [S [c]]) (i + 1) rest (fun y hy => h1 y (List.mem_cons_of_mem _ hy)) (by rw [List.append_assoc]; exact h3)]
    rw [List.append_assoc, List.length_cons, show i + 1 + l.length = i + (l.length + 1) by omega]
    rfl
theorem rr_pairs (sg : List Sg) (fi : List Str) (hs : 2 ≤ sg.length) : ∀ (l acc : List Str) (i : Nat) (rest : List (List Nat)), (∀ z ∈ l, ∃ a b, z = S [a, b] ∧ a ∈ sg.map Sg.c ∧ b ∈ sg.map Sg.c ∧ low a = true ∧ low b = true) → (acc ++ l).Nodup →
    readRows ⟨sg, fi, acc, none, [], []⟩ i (l.map (fun z => tl (Str.ofString "pair " ++ z)) ++ rest) = readRows ⟨sg, fi, acc ++ l, none, [], []⟩ (i + l.length) rest
  | [], acc, i, rest, _, _ => by simp
  | z :: l, acc, i, rest, h1, h3 => by
    have h4 : z ∉ acc := fun m => (List.nodup_append.mp h3).2.2 _ m z List.mem_cons_self rfl
    obtain ⟨a, b, rfl, ha, hb, la, lb⟩ := h1 z List.mem_cons_self
    rw [List.map_cons, List.cons_append, rr_cons (take_pair (s := ⟨sg, fi, acc, none, [], []⟩) hs rfl ha hb la lb h4)]
    rw [rr_pairs sg fi hs l (acc ++ [S [a, b]]) (i + 1) rest (fun y hy => h1 y (List.mem_cons_of_mem _ hy)) (by rw [List.append_assoc]; exact h3)]
    rw [List.append_assoc, List.length_cons, show i + 1 + l.length = i + (l.length + 1) by omega]
    rfl
theorem rr_things (sg : List Sg) (fi pa : List Str) (lo : Nat) : ∀ (l acc : List (Str × Nat)) (i : Nat) (rest : List (List Nat)), (∀ w ∈ l, nameOk w.1 = true ∧ w.2 ≤ 1000000000) → (acc ++ l).length ≤ 20 → ((acc ++ l).map (·.1)).Nodup →
    readRows ⟨sg, fi, pa, some lo, acc, []⟩ i (l.map (fun w => tl (thingS w)) ++ rest) = readRows ⟨sg, fi, pa, some lo, acc ++ l, []⟩ (i + l.length) rest
  | [], acc, i, rest, _, _, _ => by simp
  | x :: l, acc, i, rest, h1, h2, h3 => by
    rw [List.length_append, List.length_cons] at h2
    have h4 : x.1 ∉ acc.map (·.1) := fun m => by
      rw [List.map_append, List.map_cons] at h3
      exact (List.nodup_append.mp h3).2.2 _ m x.1 List.mem_cons_self rfl
    rw [List.map_cons, List.cons_append, rr_cons (take_thing (s := ⟨sg, fi, pa, some lo, acc, []⟩) (h1 x List.mem_cons_self).1 (h1 x List.mem_cons_self).2 (by simp) rfl (by show acc.length < 20; omega) h4)]
    rw [rr_things sg fi pa lo l (acc ++ [x]) (i + 1) rest (fun y hy => h1 y (List.mem_cons_of_mem _ hy)) (by simp; omega) (by rw [List.append_assoc]; exact h3)]
    rw [List.append_assoc, List.length_cons, show i + 1 + l.length = i + (l.length + 1) by omega]
    rfl
theorem rr_words (sg : List Sg) (fi pa : List Str) (lo : Option Nat) (ws : List (Str × Nat)) : ∀ (l acc : List Str) (i : Nat) (rest : List (List Nat)), (∀ z ∈ l, nameOk z = true) → (acc ++ l).length ≤ ws.length →
    readRows ⟨sg, fi, pa, lo, ws, acc⟩ i (l.map (fun z => tl (Str.ofString "word " ++ z)) ++ rest) = readRows ⟨sg, fi, pa, lo, ws, acc ++ l⟩ (i + l.length) rest
  | [], acc, i, rest, _, _ => by simp
  | x :: l, acc, i, rest, h1, h2 => by
    rw [List.length_append, List.length_cons] at h2
    rw [List.map_cons, List.cons_append, rr_cons (take_word (s := ⟨sg, fi, pa, lo, ws, acc⟩) (h1 x List.mem_cons_self) (by show acc.length < ws.length; omega))]
    rw [rr_words sg fi pa lo ws l (acc ++ [x]) (i + 1) rest (fun y hy => h1 y (List.mem_cons_of_mem _ hy)) (by simp; omega)]
    rw [List.append_assoc, List.length_cons, show i + 1 + l.length = i + (l.length + 1) by omega]
    rfl
end
end My

namespace My
open PySem PySem.Spec PyProof.Rows L2 Z M SX TL
local macro_rules | `(tactic| walk_at "rd1") => `(tactic| first
  | ((with_reducible refine Z.r_fldHd ?_); first | ((with_reducible refine Z.r_fldW (dx := ?dx) ?h (Txt.l_CaseRows (by assumption)) (Txt.n_CaseRows_signs (by assumption)) (gl_CaseRows_signs (v0 := ?v0) (v1 := ?v1) (v2 := ?v2) (v3 := ?v3) (v4 := ?v4) (v5 := ?v5) (v6 := ?v6)) ?_); (case h => walk_at "lk")) | ((with_reducible refine Z.r_fldW (dx := ?dx) ?h (Txt.l_CaseRows (by assumption)) (Txt.n_CaseRows_letters (by assumption)) (gl_CaseRows_letters (v0 := ?v0) (v1 := ?v1) (v2 := ?v2) (v3 := ?v3) (v4 := ?v4) (v5 := ?v5) (v6 := ?v6)) ?_); (case h => walk_at "lk")) | ((with_reducible refine Z.r_fldW (dx := ?dx) ?h (Txt.l_CaseRows (by assumption)) (Txt.n_CaseRows_firsts (by assumption)) (gl_CaseRows_firsts (v0 := ?v0) (v1 := ?v1) (v2 := ?v2) (v3 := ?v3) (v4 := ?v4) (v5 := ?v5) (v6 := ?v6)) ?_); (case h => walk_at "lk")) | ((with_reducible refine Z.r_fldW (dx := ?dx) ?h (Txt.l_CaseRows (by assumption)) (Txt.n_CaseRows_pairs (by assumption)) (gl_CaseRows_pairs (v0 := ?v0) (v1 := ?v1) (v2 := ?v2) (v3 := ?v3) (v4 := ?v4) (v5 := ?v5) (v6 := ?v6)) ?_); (case h => walk_at "lk")) | ((with_reducible refine Z.r_fldW (dx := ?dx) ?h (Txt.l_CaseRows (by assumption)) (Txt.n_CaseRows_longest (by assumption)) (gl_CaseRows_longest (v0 := ?v0) (v1 := ?v1) (v2 := ?v2) (v3 := ?v3) (v4 := ?v4) (v5 := ?v5) (v6 := ?v6)) ?_); (case h => walk_at "lk")) | ((with_reducible refine Z.r_fldW (dx := ?dx) ?h (Txt.l_CaseRows (by assumption)) (Txt.n_CaseRows_wants (by assumption)) (gl_CaseRows_wants (v0 := ?v0) (v1 := ?v1) (v2 := ?v2) (v3 := ?v3) (v4 := ?v4) (v5 := ?v5) (v6 := ?v6)) ?_); (case h => walk_at "lk")) | ((with_reducible refine Z.r_fldW (dx := ?dx) ?h (Txt.l_CaseRows (by assumption)) (Txt.n_CaseRows_words (by assumption)) (gl_CaseRows_words (v0 := ?v0) (v1 := ?v1) (v2 := ?v2) (v3 := ?v3) (v4 := ?v4) (v5 := ?v5) (v6 := ?v6)) ?_); (case h => walk_at "lk")))
  | ((with_reducible refine Z.r_setHd ?_); first | ((with_reducible refine Z.r_setW (dx := ?dx) ?h (Txt.l_CaseRows (by assumption)) (Txt.n_CaseRows_signs (by assumption)) ln_CaseRows (pt_CaseRows_signs (v0 := ?v0) (v1 := ?v1) (v2 := ?v2) (v3 := ?v3) (v4 := ?v4) (v5 := ?v5) (v6 := ?v6)) ?_); (case h => walk_at "lk")) | ((with_reducible refine Z.r_setW (dx := ?dx) ?h (Txt.l_CaseRows (by assumption)) (Txt.n_CaseRows_letters (by assumption)) ln_CaseRows (pt_CaseRows_letters (v0 := ?v0) (v1 := ?v1) (v2 := ?v2) (v3 := ?v3) (v4 := ?v4) (v5 := ?v5) (v6 := ?v6)) ?_); (case h => walk_at "lk")) | ((with_reducible refine Z.r_setW (dx := ?dx) ?h (Txt.l_CaseRows (by assumption)) (Txt.n_CaseRows_firsts (by assumption)) ln_CaseRows (pt_CaseRows_firsts (v0 := ?v0) (v1 := ?v1) (v2 := ?v2) (v3 := ?v3) (v4 := ?v4) (v5 := ?v5) (v6 := ?v6)) ?_); (case h => walk_at "lk")) | ((with_reducible refine Z.r_setW (dx := ?dx) ?h (Txt.l_CaseRows (by assumption)) (Txt.n_CaseRows_pairs (by assumption)) ln_CaseRows (pt_CaseRows_pairs (v0 := ?v0) (v1 := ?v1) (v2 := ?v2) (v3 := ?v3) (v4 := ?v4) (v5 := ?v5) (v6 := ?v6)) ?_); (case h => walk_at "lk")) | ((with_reducible refine Z.r_setW (dx := ?dx) ?h (Txt.l_CaseRows (by assumption)) (Txt.n_CaseRows_longest (by assumption)) ln_CaseRows (pt_CaseRows_longest (v0 := ?v0) (v1 := ?v1) (v2 := ?v2) (v3 := ?v3) (v4 := ?v4) (v5 := ?v5) (v6 := ?v6)) ?_); (case h => walk_at "lk")) | ((with_reducible refine Z.r_setW (dx := ?dx) ?h (Txt.l_CaseRows (by assumption)) (Txt.n_CaseRows_wants (by assumption)) ln_CaseRows (pt_CaseRows_wants (v0 := ?v0) (v1 := ?v1) (v2 := ?v2) (v3 := ?v3) (v4 := ?v4) (v5 := ?v5) (v6 := ?v6)) ?_); (case h => walk_at "lk")) | ((with_reducible refine Z.r_setW (dx := ?dx) ?h (Txt.l_CaseRows (by assumption)) (Txt.n_CaseRows_words (by assumption)) ln_CaseRows (pt_CaseRows_words (v0 := ?v0) (v1 := ?v1) (v2 := ?v2) (v3 := ?v3) (v4 := ?v4) (v5 := ?v5) (v6 := ?v6)) ?_); (case h => walk_at "lk")))
  | ((with_reducible refine Z.r_methHd ?_); first | ((with_reducible refine Z.r_methW (dx := ?dx) ?h (ml_CaseRows_takes_sign (v0 := ?v0) (v1 := ?v1) (v2 := ?v2) (v3 := ?v3) (v4 := ?v4) (v5 := ?v5) (v6 := ?v6)) ?_); (case h => walk_at "lk")) | ((with_reducible refine Z.r_methSW (dx := ?dx) ?h (ml_CaseRows_takes_sign (v0 := ?v0) (v1 := ?v1) (v2 := ?v2) (v3 := ?v3) (v4 := ?v4) (v5 := ?v5) (v6 := ?v6)) ?_); (case h => walk_at "lk")) | ((with_reducible refine Z.r_methW (dx := ?dx) ?h (ml_CaseRows_is_open (v0 := ?v0) (v1 := ?v1) (v2 := ?v2) (v3 := ?v3) (v4 := ?v4) (v5 := ?v5) (v6 := ?v6)) ?_); (case h => walk_at "lk")) | ((with_reducible refine Z.r_methSW (dx := ?dx) ?h (ml_CaseRows_is_open (v0 := ?v0) (v1 := ?v1) (v2 := ?v2) (v3 := ?v3) (v4 := ?v4) (v5 := ?v5) (v6 := ?v6)) ?_); (case h => walk_at "lk")) | ((with_reducible refine Z.r_methW (dx := ?dx) ?h (ml_CaseRows_takes_first (v0 := ?v0) (v1 := ?v1) (v2 := ?v2) (v3 := ?v3) (v4 := ?v4) (v5 := ?v5) (v6 := ?v6)) ?_); (case h => walk_at "lk")) | ((with_reducible refine Z.r_methSW (dx := ?dx) ?h (ml_CaseRows_takes_first (v0 := ?v0) (v1 := ?v1) (v2 := ?v2) (v3 := ?v3) (v4 := ?v4) (v5 := ?v5) (v6 := ?v6)) ?_); (case h => walk_at "lk")) | ((with_reducible refine Z.r_methW (dx := ?dx) ?h (ml_CaseRows_takes_pair (v0 := ?v0) (v1 := ?v1) (v2 := ?v2) (v3 := ?v3) (v4 := ?v4) (v5 := ?v5) (v6 := ?v6)) ?_); (case h => walk_at "lk")) | ((with_reducible refine Z.r_methSW (dx := ?dx) ?h (ml_CaseRows_takes_pair (v0 := ?v0) (v1 := ?v1) (v2 := ?v2) (v3 := ?v3) (v4 := ?v4) (v5 := ?v5) (v6 := ?v6)) ?_); (case h => walk_at "lk")) | ((with_reducible refine Z.r_methW (dx := ?dx) ?h (ml_CaseRows_takes_longest (v0 := ?v0) (v1 := ?v1) (v2 := ?v2) (v3 := ?v3) (v4 := ?v4) (v5 := ?v5) (v6 := ?v6)) ?_); (case h => walk_at "lk")) | ((with_reducible refine Z.r_methSW (dx := ?dx) ?h (ml_CaseRows_takes_longest (v0 := ?v0) (v1 := ?v1) (v2 := ?v2) (v3 := ?v3) (v4 := ?v4) (v5 := ?v5) (v6 := ?v6)) ?_); (case h => walk_at "lk")) | ((with_reducible refine Z.r_methW (dx := ?dx) ?h (ml_CaseRows_takes_thing (v0 := ?v0) (v1 := ?v1) (v2 := ?v2) (v3 := ?v3) (v4 := ?v4) (v5 := ?v5) (v6 := ?v6)) ?_); (case h => walk_at "lk")) | ((with_reducible refine Z.r_methSW (dx := ?dx) ?h (ml_CaseRows_takes_thing (v0 := ?v0) (v1 := ?v1) (v2 := ?v2) (v3 := ?v3) (v4 := ?v4) (v5 := ?v5) (v6 := ?v6)) ?_); (case h => walk_at "lk")) | ((with_reducible refine Z.r_methW (dx := ?dx) ?h (ml_CaseRows_takes_word (v0 := ?v0) (v1 := ?v1) (v2 := ?v2) (v3 := ?v3) (v4 := ?v4) (v5 := ?v5) (v6 := ?v6)) ?_); (case h => walk_at "lk")) | ((with_reducible refine Z.r_methSW (dx := ?dx) ?h (ml_CaseRows_takes_word (v0 := ?v0) (v1 := ?v1) (v2 := ?v2) (v3 := ?v3) (v4 := ?v4) (v5 := ?v5) (v6 := ?v6)) ?_); (case h => walk_at "lk")) | ((with_reducible refine Z.r_methW (dx := ?dx) ?h (ml_CaseRows_takes (v0 := ?v0) (v1 := ?v1) (v2 := ?v2) (v3 := ?v3) (v4 := ?v4) (v5 := ?v5) (v6 := ?v6)) ?_); (case h => walk_at "lk")) | ((with_reducible refine Z.r_methSW (dx := ?dx) ?h (ml_CaseRows_takes (v0 := ?v0) (v1 := ?v1) (v2 := ?v2) (v3 := ?v3) (v4 := ?v4) (v5 := ?v5) (v6 := ?v6)) ?_); (case h => walk_at "lk")) | ((with_reducible refine Z.r_methW (dx := ?dx) ?h (ml_CaseRows_lacks (v0 := ?v0) (v1 := ?v1) (v2 := ?v2) (v3 := ?v3) (v4 := ?v4) (v5 := ?v5) (v6 := ?v6)) ?_); (case h => walk_at "lk")) | ((with_reducible refine Z.r_methSW (dx := ?dx) ?h (ml_CaseRows_lacks (v0 := ?v0) (v1 := ?v1) (v2 := ?v2) (v3 := ?v3) (v4 := ?v4) (v5 := ?v5) (v6 := ?v6)) ?_); (case h => walk_at "lk")) | ((with_reducible refine Z.r_methW (dx := ?dx) ?h (ml_CaseRows_made (v0 := ?v0) (v1 := ?v1) (v2 := ?v2) (v3 := ?v3) (v4 := ?v4) (v5 := ?v5) (v6 := ?v6)) ?_); (case h => walk_at "lk")) | ((with_reducible refine Z.r_methSW (dx := ?dx) ?h (ml_CaseRows_made (v0 := ?v0) (v1 := ?v1) (v2 := ?v2) (v3 := ?v3) (v4 := ?v4) (v5 := ?v5) (v6 := ?v6)) ?_); (case h => walk_at "lk")))
  | ((with_reducible refine Z.r_methSHd ?_); first | ((with_reducible refine Z.r_methW (dx := ?dx) ?h (ml_CaseRows_takes_sign (v0 := ?v0) (v1 := ?v1) (v2 := ?v2) (v3 := ?v3) (v4 := ?v4) (v5 := ?v5) (v6 := ?v6)) ?_); (case h => walk_at "lk")) | ((with_reducible refine Z.r_methSW (dx := ?dx) ?h (ml_CaseRows_takes_sign (v0 := ?v0) (v1 := ?v1) (v2 := ?v2) (v3 := ?v3) (v4 := ?v4) (v5 := ?v5) (v6 := ?v6)) ?_); (case h => walk_at "lk")) | ((with_reducible refine Z.r_methW (dx := ?dx) ?h (ml_CaseRows_is_open (v0 := ?v0) (v1 := ?v1) (v2 := ?v2) (v3 := ?v3) (v4 := ?v4) (v5 := ?v5) (v6 := ?v6)) ?_); (case h => walk_at "lk")) | ((with_reducible refine Z.r_methSW (dx := ?dx) ?h (ml_CaseRows_is_open (v0 := ?v0) (v1 := ?v1) (v2 := ?v2) (v3 := ?v3) (v4 := ?v4) (v5 := ?v5) (v6 := ?v6)) ?_); (case h => walk_at "lk")) | ((with_reducible refine Z.r_methW (dx := ?dx) ?h (ml_CaseRows_takes_first (v0 := ?v0) (v1 := ?v1) (v2 := ?v2) (v3 := ?v3) (v4 := ?v4) (v5 := ?v5) (v6 := ?v6)) ?_); (case h => walk_at "lk")) | ((with_reducible refine Z.r_methSW (dx := ?dx) ?h (ml_CaseRows_takes_first (v0 := ?v0) (v1 := ?v1) (v2 := ?v2) (v3 := ?v3) (v4 := ?v4) (v5 := ?v5) (v6 := ?v6)) ?_); (case h => walk_at "lk")) | ((with_reducible refine Z.r_methW (dx := ?dx) ?h (ml_CaseRows_takes_pair (v0 := ?v0) (v1 := ?v1) (v2 := ?v2) (v3 := ?v3) (v4 := ?v4) (v5 := ?v5) (v6 := ?v6)) ?_); (case h => walk_at "lk")) | ((with_reducible refine Z.r_methSW (dx := ?dx) ?h (ml_CaseRows_takes_pair (v0 := ?v0) (v1 := ?v1) (v2 := ?v2) (v3 := ?v3) (v4 := ?v4) (v5 := ?v5) (v6 := ?v6)) ?_); (case h => walk_at "lk")) | ((with_reducible refine Z.r_methW (dx := ?dx) ?h (ml_CaseRows_takes_longest (v0 := ?v0) (v1 := ?v1) (v2 := ?v2) (v3 := ?v3) (v4 := ?v4) (v5 := ?v5) (v6 := ?v6)) ?_); (case h => walk_at "lk")) | ((with_reducible refine Z.r_methSW (dx := ?dx) ?h (ml_CaseRows_takes_longest (v0 := ?v0) (v1 := ?v1) (v2 := ?v2) (v3 := ?v3) (v4 := ?v4) (v5 := ?v5) (v6 := ?v6)) ?_); (case h => walk_at "lk")) | ((with_reducible refine Z.r_methW (dx := ?dx) ?h (ml_CaseRows_takes_thing (v0 := ?v0) (v1 := ?v1) (v2 := ?v2) (v3 := ?v3) (v4 := ?v4) (v5 := ?v5) (v6 := ?v6)) ?_); (case h => walk_at "lk")) | ((with_reducible refine Z.r_methSW (dx := ?dx) ?h (ml_CaseRows_takes_thing (v0 := ?v0) (v1 := ?v1) (v2 := ?v2) (v3 := ?v3) (v4 := ?v4) (v5 := ?v5) (v6 := ?v6)) ?_); (case h => walk_at "lk")) | ((with_reducible refine Z.r_methW (dx := ?dx) ?h (ml_CaseRows_takes_word (v0 := ?v0) (v1 := ?v1) (v2 := ?v2) (v3 := ?v3) (v4 := ?v4) (v5 := ?v5) (v6 := ?v6)) ?_); (case h => walk_at "lk")) | ((with_reducible refine Z.r_methSW (dx := ?dx) ?h (ml_CaseRows_takes_word (v0 := ?v0) (v1 := ?v1) (v2 := ?v2) (v3 := ?v3) (v4 := ?v4) (v5 := ?v5) (v6 := ?v6)) ?_); (case h => walk_at "lk")) | ((with_reducible refine Z.r_methW (dx := ?dx) ?h (ml_CaseRows_takes (v0 := ?v0) (v1 := ?v1) (v2 := ?v2) (v3 := ?v3) (v4 := ?v4) (v5 := ?v5) (v6 := ?v6)) ?_); (case h => walk_at "lk")) | ((with_reducible refine Z.r_methSW (dx := ?dx) ?h (ml_CaseRows_takes (v0 := ?v0) (v1 := ?v1) (v2 := ?v2) (v3 := ?v3) (v4 := ?v4) (v5 := ?v5) (v6 := ?v6)) ?_); (case h => walk_at "lk")) | ((with_reducible refine Z.r_methW (dx := ?dx) ?h (ml_CaseRows_lacks (v0 := ?v0) (v1 := ?v1) (v2 := ?v2) (v3 := ?v3) (v4 := ?v4) (v5 := ?v5) (v6 := ?v6)) ?_); (case h => walk_at "lk")) | ((with_reducible refine Z.r_methSW (dx := ?dx) ?h (ml_CaseRows_lacks (v0 := ?v0) (v1 := ?v1) (v2 := ?v2) (v3 := ?v3) (v4 := ?v4) (v5 := ?v5) (v6 := ?v6)) ?_); (case h => walk_at "lk")) | ((with_reducible refine Z.r_methW (dx := ?dx) ?h (ml_CaseRows_made (v0 := ?v0) (v1 := ?v1) (v2 := ?v2) (v3 := ?v3) (v4 := ?v4) (v5 := ?v5) (v6 := ?v6)) ?_); (case h => walk_at "lk")) | ((with_reducible refine Z.r_methSW (dx := ?dx) ?h (ml_CaseRows_made (v0 := ?v0) (v1 := ?v1) (v2 := ?v2) (v3 := ?v3) (v4 := ?v4) (v5 := ?v5) (v6 := ?v6)) ?_); (case h => walk_at "lk")))
  | with_reducible refine Z.r_fld ?_
  | with_reducible refine Z.r_sfld ?_
  | with_reducible refine Z.r_afld ?_
  | with_reducible refine Z.r_meth ?_
  | with_reducible refine Z.r_methS ?_
  | with_reducible refine Z.r_make ?_)
section
variable {P : Program} {w : World} {K : PySem.W.Frag} {mg : Str → Option Value} {base : Heap}
/-! ### a row, and all rows -/
theorem spl_ne1 (c : Nat) : ∀ (L acc : List Nat), spl [c] 0 acc L ≠ []
  | [], acc => by rw [spl_nil]; simp
  | d :: r, acc => by
    cases e : pre [c] (d :: r) with
    | true => rw [spl_hit e]; simp
    | false =>
      rw [spl_miss e]
      exact spl_ne1 c r _
theorem spl_part_len1 (c : Nat) : ∀ (L acc : List Nat) p, p ∈ spl [c] 0 acc L → p.length ≤ acc.length + L.length
  | [], acc, p, h => by
    rw [spl_nil, List.mem_singleton] at h
    rw [h]
    omega
  | d :: r, acc, p, h => by
    cases e : pre [c] (d :: r) with
    | true =>
      rw [spl_hit e] at h
      rcases List.mem_cons.mp h with h | h
      · rw [h]
        omega
      · have := spl_part_len1 c r [] p h
        rw [List.length_nil] at this
        rw [List.length_cons]
        omega
    | false =>
      rw [spl_miss e] at h
      have := spl_part_len1 c r (acc ++ [d]) p h
      rw [List.length_append, List.length_singleton] at this
      rw [List.length_cons]
      omega
theorem spl_many1 (c : Nat) : ∀ (L acc : List Nat), (spl [c] 0 acc L).length ≤ L.length + 1
  | [], acc => by rw [spl_nil]; simp
  | d :: r, acc => by
    cases e : pre [c] (d :: r) with
    | true =>
      rw [spl_hit e, List.length_cons, List.length_cons]
      exact Nat.succ_le_succ (spl_many1 c r [])
    | false =>
      rw [spl_miss e, List.length_cons]
      have := spl_many1 c r (acc ++ [d])
      omega
theorem split_1 {z : Str} {c : Nat} (hz : tl z = [c]) (hk : z.cps.all (· < 256) = true) (l : List Nat) : Txt.split (S l) z = (spl [c] 0 [] l).map S := by
  have h := split_spl (S l) z (by rw [hz]; simp) (kind_ok hk)
  rw [hz] at h
  refine map_tl_inj ?_
  rw [h, List.map_map]
  have : (tl ∘ S) = id := rfl
  rw [this, List.map_id]
theorem split_W (l : List Nat) : Txt.split (S l) (Str.ofString " ") = (spW l).map S := split_1 (by decide +kernel) (by decide +kernel) l
theorem split_N (l : List Nat) : Txt.split (S l) (Str.ofString "\n") = (spN l).map S := split_1 (by decide +kernel) (by decide +kernel) l
def sp_takes (K : PySem.W.Frag) : Sp := fun vs H Q _ => ∃ F o dx a1 a2 a3 a4 a5 xs ys s n row, vs = [.ref o, .str (S row)] ∧ RsA K F H o dx a1 a2 a3 a4 a5 xs ys s ∧ RsK n s ∧ n ≤ 1000000 ∧ row.length ≤ 3000 ∧
  ∀ F' H' xs' ys', Mv [o, a1, a2, a3, a4, a5] F H F' H' → RsA K F' H' o dx a1 a2 a3 a4 a5 xs' ys' ((takeRow s row).getD s) → Q (.bl (takeRow s row).isSome) H'
theorem okm_CaseRows_takes (T : Txt K mg) : Z.M0 P w K mg base 7 (He.ga K "CaseRows") "takes" (sp_takes K) := by
  refine T.d_CaseRows_takes.m0 T.m_CaseRows_takes scm_CaseRows_takes (fun vs H Q E h => ?_) (Z.bdm fun _ _ _ _ _ _ us hl => match us, hl with | [_, _], _ => rfl) (fun f cdv A outer s H vs Q E hr h => ⟨_, (pss_cons (ps_set (i := 2) scm_CaseRows_takes.nd rfl (Or.inl rfl) (pe_ix (k_ix K) (k_bm K PySem.F.plainAttrs_str PySem.F.slot_str_split PySem.F.type_str_split mt_splitP (pv 1) (pa_cons pe_str pa_nil)) pe_int (fun _ _ => rfl)))
  (pss_cons (ps_set (i := 3) scm_CaseRows_takes.nd rfl (Or.inl rfl) (pe_slice (k_sl K) (k_bm K PySem.F.plainAttrs_str PySem.F.slot_str_split PySem.F.type_str_split mt_splitP (pv 1) (pa_cons pe_str pa_nil)) (po_some pe_int) po_none))
  (pss_cons (ps_if (pt_cmpR (k_eqP K hr.units) (pv 2) pe_str (nomark _))
  (pss_one (ps_ret (pe_m (okm_CaseRows_takes_sign T) T.l_CaseRows hr (by decide) (pv 0) (pa_cons (pv 3) pa_nil)))) pss_nil)
  (pss_cons (ps_if (pt_cmpR (k_eqP K hr.units) (pv 2) pe_str (nomark _))
  (pss_one (ps_ret (pe_m (okm_CaseRows_takes_first T) T.l_CaseRows hr (by decide) (pv 0) (pa_cons (pv 3) pa_nil)))) pss_nil)
  (pss_cons (ps_if (pt_cmpR (k_eqP K hr.units) (pv 2) pe_str (nomark _))
  (pss_one (ps_ret (pe_m (okm_CaseRows_takes_pair T) T.l_CaseRows hr (by decide) (pv 0) (pa_cons (pv 3) pa_nil)))) pss_nil)
  (pss_cons (ps_if (pt_cmpR (k_eqP K hr.units) (pv 2) pe_str (nomark _))
  (pss_one (ps_ret (pe_m (okm_CaseRows_takes_longest T) T.l_CaseRows hr (by decide) (pv 0) (pa_cons (pv 3) pa_nil)))) pss_nil)
  (pss_cons (ps_if (pt_cmpR (k_eqP K hr.units) (pv 2) pe_str (nomark _))
  (pss_one (ps_ret (pe_m (okm_CaseRows_takes_thing T) T.l_CaseRows hr (by decide) (pv 0) (pa_cons (pv 3) pa_nil)))) pss_nil)
  (pss_one (ps_ret (pe_and (pe_cmpR (k_eqP K hr.units) (pv 2) pe_str (nomark _)) (pe_one (pe_m (okm_CaseRows_takes_word T) T.l_CaseRows hr (by decide) (pv 0) (pa_cons (pv 3) pa_nil))))))))))))), ?_⟩)
  · obtain ⟨F, o, dx, a1, a2, a3, a4, a5, xs, ys, s, n, row, rfl, _⟩ := h
    rfl
  · obtain ⟨F, o, dx, a1, a2, a3, a4, a5, xs, ys, s, n, row, rfl, R, k, hn, hr2, q⟩ := h
    rw [stm_CaseRows_takes]
    walk_at "st"
    have hsl := M.S_len row
    walk_at "rd"
    intro l1 H1 n1 s1 f1
    rw [split_W] at f1
    have R1 := R.ext (R.z.same s1)
    obtain ⟨kd, ps, e⟩ : ∃ kd ps, spW row = kd :: ps := by
      cases h : spW row with
      | nil => exact absurd h (spl_ne1 32 row [])
      | cons a b => exact ⟨a, b, rfl⟩
    have hps : ∀ p ∈ ps, p.length ≤ 3000 := fun p hp => by
      have := spl_part_len1 32 row [] p (by rw [show spl [32] 0 [] row = spW row from rfl, e]; exact List.mem_cons_of_mem _ hp)
      rw [List.length_nil] at this
      omega
    have hpl : ps.length ≤ 3000 := by
      have := spl_many1 32 row []
      rw [show spl [32] 0 [] row = spW row from rfl, e, List.length_cons] at this
      omega
    rw [e] at f1
    have a0 : atI (((kd :: ps).map S).map V.str) 0 = some (.str (S kd)) := atI_nat (j := 0) rfl
    rw [row_of e] at q
    have hc1 : cutV (((kd :: ps).map S).map V.str) (some 1) none = (ps.map S).map V.str := cut_from _ 1
    walk_at "rd"
    intro l2 H2 n2 s2 f2
    rw [split_W, e] at f2
    have R2 := R1.ext (R1.z.same s2)
    walk_at "rd"
    intro l3 H3 n3 s3 f3
    rw [hc1] at f3
    obtain ⟨e3, q3⟩ := R2.z.new n3 s3 f3
    have R3 := R2.ext e3
    have m3 : Mv [o, a1, a2, a3, a4, a5] F H (upd F l3 (.lst ((ps.map S).map V.str))) H3 := ⟨e3.f, fun a u _ h => s3 _ _ (s2 _ _ (s1 _ _ h))⟩
    have ho := R3.ob
    clear s1 s2 s3 f1 f2 f3 n1 n2 n3 R1 R2 R e3 a0
    revert m3 R3 q3
    generalize upd F l3 (.lst ((ps.map S).map V.str)) = F3
    intro q3 R3 m3
    unfold takeBy at q
    walk_at "rd"
    refine r_ite (fun h1 => ?_) (fun h1 => ?_)
    · rw [if_pos h1] at q
      walk_at "rd"
      exact ⟨F3, o, dx, a1, a2, a3, a4, a5, xs, ys, s, n, l3, ps, rfl, R3, k, hn, q3, hps, fun F' H' xs' ys' m r => q F' H' xs' ys' (m3.tr m) r⟩
    rw [if_neg h1] at q
    walk_at "rd"
    refine r_ite (fun h2 => ?_) (fun h2 => ?_)
    · rw [if_pos h2] at q
      walk_at "rd"
      exact ⟨F3, o, dx, a1, a2, a3, a4, a5, xs, ys, s, n, l3, ps, rfl, R3, k, hn, q3, hps, fun F' H' xs' ys' m r => q F' H' xs' ys' (m3.tr m) r⟩
    rw [if_neg h2] at q
    walk_at "rd"
    refine r_ite (fun h3 => ?_) (fun h3 => ?_)
    · rw [if_pos h3] at q
      walk_at "rd"
      exact ⟨F3, o, dx, a1, a2, a3, a4, a5, xs, ys, s, n, l3, ps, rfl, R3, k, hn, q3, hps, fun F' H' xs' ys' m r => q F' H' xs' ys' (m3.tr m) r⟩
    rw [if_neg h3] at q
    walk_at "rd"
    refine r_ite (fun h4 => ?_) (fun h4 => ?_)
    · rw [if_pos h4] at q
      walk_at "rd"
      exact ⟨F3, o, dx, a1, a2, a3, a4, a5, xs, ys, s, n, l3, ps, rfl, R3, k, hn, q3, hps, fun F' H' xs' ys' m r => q F' H' xs' ys' (m3.tr m) r⟩
    rw [if_neg h4] at q
    walk_at "rd"
    refine r_ite (fun h5 => ?_) (fun h5 => ?_)
    · rw [if_pos h5] at q
      walk_at "rd"
      exact ⟨F3, o, dx, a1, a2, a3, a4, a5, xs, ys, s, n, l3, ps, rfl, R3, k, hn, q3, hps, fun F' H' xs' ys' m r => q F' H' xs' ys' (m3.tr m) r⟩
    rw [if_neg h5] at q
    walk_at "rd"
    refine r_ite (fun h6 => ?_) (fun h6 => ?_)
    · rw [if_pos h6] at q
      walk_at "rd"
      exact ⟨F3, o, dx, a1, a2, a3, a4, a5, xs, ys, s, n, l3, ps, rfl, R3, k, hn, q3, hps, fun F' H' xs' ys' m r => q F' H' xs' ys' (m3.tr m) r⟩
    · rw [if_neg h6] at q
      walk_at "rd"
      exact q F3 H3 xs ys m3 R3
def sp_lacks (K : PySem.W.Frag) : Sp := fun vs H Q _ => ∃ F o dx a1 a2 a3 a4 a5 xs ys s n, vs = [.ref o] ∧ RsA K F H o dx a1 a2 a3 a4 a5 xs ys s ∧ RsK n s ∧ ∀ H', Same H H' → Q (.bl (lacks s)) H'
theorem eqvW_nil (ws : List (Str × Nat)) : PyData.eqv (.list (wsD ws)) (.list []) = decide (ws = []) := by
  cases ws with
  | nil => decide +kernel
  | cons a r => rfl
theorem wsD_layN {ws : List (Str × Nat)} (h : ∀ w ∈ ws, nameOk w.1 = true) : SeqAt.shaped (.list (wsD ws)) = true := by
  obtain ⟨h1, h2⟩ := wsD_lay ws h
  unfold SeqAt.shaped
  rw [PyData.canLay0, h1, Bool.true_and, decide_eq_true_iff, PyData.depth]
  omega
theorem inV_2 (n m : Nat) : inV (.int (n : Nat)) [.int 0, .int (m : Nat)] = (decide (n = 0) || decide (n = m)) := by
  unfold inV
  simp only [List.any_cons, List.any_nil, Bool.or_false, eqV]
  congr 1
  · rw [Bool.eq_iff_iff]
    simp
    omega
  · rw [Bool.eq_iff_iff]
    simp
    omega
theorem okm_CaseRows_lacks (T : Txt K mg) : Z.M0 P w K mg base 1 (He.ga K "CaseRows") "lacks" (sp_lacks K) := by
  refine T.d_CaseRows_lacks.m0 T.m_CaseRows_lacks scm_CaseRows_lacks (fun vs H Q E h => ?_) (Z.bdm fun _ _ _ _ _ _ us hl => match us, hl with | [_], _ => rfl) (fun f cdv A outer s H vs Q E hr h => ⟨_, (pss_one (ps_ret (pe_or (pe_cmpR (k_eqP K hr.units) (k_fld K (pv 0) rfl) (pe_lst pa_nil) (nomark _)) (pe_one (pe_cmpR (k_notInP K) (pe_callB (k_len K) rfl T.b_len (by decide +kernel) (pa_cons (k_fld K (pv 0) rfl) pa_nil)) (pe_tup (pa_cons pe_int (pa_cons (pe_callB (k_len K) rfl T.b_len (by decide +kernel) (pa_cons (k_fld K (pv 0) rfl) pa_nil)) pa_nil))) (by rfl)))))), ?_⟩)
  · obtain ⟨F, o, dx, a1, a2, a3, a4, a5, xs, ys, s, n, rfl, _⟩ := h
    rfl
  · obtain ⟨F, o, dx, a1, a2, a3, a4, a5, xs, ys, s, n, rfl, R, k, q⟩ := h
    rw [stm_CaseRows_lacks]
    walk_at "st"
    have ho := R.ob
    walk_at "rd"
    intro l1 H1 n1 s1 f1
    have R1 := R.ext (R.z.same s1)
    have lay := wsD_lay s.ws k.k9
    refine r_eqD (d := .list (wsD s.ws)) (e := .list []) (.lst (sqL R1.h4) (DqAll.dp (R1.z.ups R1.d4) lay.1)) (.lst (sqL f1) .nil) ?_ (wsD_layN k.k9) (by decide +kernel)
    rw [eqvW_nil]
    unfold lacks at q
    have ho1 := R1.ob
    have h4 := R1.h4
    have h5 := R1.h5
    have hyl : ys.length = s.ws.length := by rw [R.d4.length, len_wsD]
    have hbl : (s.bk.map V.str).length = s.bk.length := List.length_map _
    walk_at "rd"
    refine r_ite (fun h => ?_) (fun h => ?_)
    · rw [decide_eq_true h] at q
      exact q H1 s1
    · rw [decide_eq_false h] at q
      walk_at "rd"
      intro tp H2 n2 s2 f2
      rw [hyl] at f2
      rw [hbl]
      refine .inr ⟨tp, _, rfl, .inr (sqT f2), rfl, rfl, ?_⟩
      rw [inV_2]
      exact q H2 (s1.trans s2)
def sp_made (K : PySem.W.Frag) : Sp := fun vs H Q _ => ∃ F o dx a1 a2 a3 a4 a5 xs ys s n lo, vs = [.ref o] ∧ RsA K F H o dx a1 a2 a3 a4 a5 xs ys s ∧ RsK n s ∧ s.lo = some lo ∧
  ∀ c tt vb H', Same H H' → H' c = some (.tup [.ref tt, .ref a4, vb]) → H' tt = some (.tup [.ref a1, .ref a2, .ref a3, .int (lo : Nat)]) → vb = (if s.bk = [] then .non else .ref a5) → Q (.ref c) H'
theorem okm_CaseRows_made (T : Txt K mg) : Z.M0 P w K mg base 1 (He.ga K "CaseRows") "made" (sp_made K) := by
  refine T.d_CaseRows_made.m0 T.m_CaseRows_made scm_CaseRows_made (fun vs H Q E h => ?_) (Z.bdm fun _ _ _ _ _ _ us hl => match us, hl with | [_], _ => rfl) (fun f cdv A outer s H vs Q E hr h => ⟨_, (pss_cons (ps_set (i := 1) scm_CaseRows_made.nd rfl (Or.inl rfl) pe_non)
  (Evl.pss_cut (ps_if (pt_cmpR (k_neP K hr.units) (k_fld K (pv 0) rfl) (pe_lst pa_nil) (nomark _))
  (pss_one (ps_set (i := 1) scm_CaseRows_made.nd rfl (Or.inl rfl) (k_fld K (pv 0) rfl))) pss_nil)
  (pss_one (ps_ret (pe_tup (pa_cons (pe_tup (pa_cons (k_fld K (pv 0) rfl) (pa_cons (k_fld K (pv 0) rfl) (pa_cons (k_fld K (pv 0) rfl) (pa_cons (k_fld K (pv 0) rfl) pa_nil))))) (pa_cons (k_fld K (pv 0) rfl) (pa_cons (pv 1) pa_nil)))))))), ?_⟩)
  · obtain ⟨F, o, dx, a1, a2, a3, a4, a5, xs, ys, s, n, lo, rfl, _⟩ := h
    rfl
  · obtain ⟨F, o, dx, a1, a2, a3, a4, a5, xs, ys, s, n, lo, rfl, R, k, hlo, q⟩ := h
    rw [stm_CaseRows_made]
    walk_at "st"
    have ho := R.ob
    rw [hlo] at ho
    replace ho : H o = some (.ins (He.ga K "CaseRows") dx (fl_CaseRows (.ref a1) (.str (S s.ls)) (.ref a2) (.ref a3) (.int (lo : Nat)) (.ref a4) (.ref a5))) := ho
    walk_at "rd"
    refine r_cut (fun σ' H' => Same H H' ∧ σ' = [some (.ref o), some (if s.bk = [] then .non else .ref a5)]) ?_ ?_
    · walk_at "rd"
      intro l1 H1 n1 s1 f1
      refine r_neD (d := .list (s.bk.map PyData.str)) (e := .list []) (.lst (sqL (s1 _ _ R.h5)) (dp_strs _)) (.lst (sqL f1) .nil) ?_ (shaped_strs fun z hz => name_str (k.k8 z hz)) (by decide +kernel)
      rw [eqv_nil]
      have ho1 := s1 _ _ ho
      walk_at "rd"
      refine r_nite (fun h => ?_) (fun h => ?_)
      · walk_at "rd"
        rw [if_neg h]
        exact ⟨s1, rfl⟩
      · walk_at "rd"
        rw [if_pos h]
        exact ⟨s1, rfl⟩
    rintro σ' H1 ⟨s1, rfl⟩
    have ho1 := s1 _ _ ho
    walk_at "rd"
    intro tt H2 n2 s2 f2
    have ho2 := s2 _ _ ho1
    walk_at "rd"
    intro c H3 n3 s3 f3
    exact q c tt _ H3 (s1.trans (s2.trans s3)) f3 (s3 _ _ f2) rfl
theorem okm_CaseRows___init__ (T : Txt K mg) : Z.If P w K mg base 1 (He.ga K "CaseRows") (sp_rsini K) := by
  refine T.d_CaseRows___init__.mi T.mk_CaseRows scm_CaseRows___init__ (fun vs H Q E h => ?_) (Z.bdm fun _ _ _ _ _ _ us hl => match us, hl with | [_], _ => rfl) (fun f cdv A outer s H vs Q E hr h => ⟨_, (pss_cons (ps_fld (pv 0) (pe_lst pa_nil) rfl)
  (pss_cons (ps_fld (pv 0) pe_str rfl)
  (pss_cons (ps_fld (pv 0) (pe_lst pa_nil) rfl)
  (pss_cons (ps_fld (pv 0) (pe_lst pa_nil) rfl)
  (pss_cons (ps_fld (pv 0) pe_non rfl)
  (pss_cons (ps_fld (pv 0) (pe_lst pa_nil) rfl)
  (pss_one (ps_fld (pv 0) (pe_lst pa_nil) rfl)))))))), ?_⟩)
  · obtain ⟨F, o, dx, rfl, _⟩ := h
    rfl
  · obtain ⟨F, o, dx, rfl, sF, nF, ho, q⟩ := h
    rw [stm_CaseRows___init__]
    walk_at "st"
    walk_at "rd"
    intro a1 H1 n1 s1 f1
    have h1 := s1 _ _ ho
    have o1 : a1 ≠ o := (ne1 n1 ho).symm
    walk_at "rd"
    refine r_setW (fs := []) (fs' := [("signs", V.ref a1)]) h1 T.l_CaseRows T.n_CaseRows_signs (by simp) (by rfl) (fun H2 b2 g2 => ?_)
    have x1 := b2 _ _ o1 f1
    walk_at "rd"
    refine r_setW (fs' := [("signs", V.ref a1), ("letters", .str (Str.ofString ""))]) g2 T.l_CaseRows T.n_CaseRows_letters (by simp) (by rfl) (fun H3 b3 g3 => ?_)
    have y1 := b3 _ _ o1 x1
    walk_at "rd"
    intro a2 H4 n4 s4 f4
    have o2 : a2 ≠ o := (ne1 n4 g3).symm
    have d12 : a1 ≠ a2 := ne1 n4 y1
    walk_at "rd"
    refine r_setW (fs' := [("signs", V.ref a1), ("letters", .str (Str.ofString "")), ("firsts", .ref a2)]) (s4 _ _ g3) T.l_CaseRows T.n_CaseRows_firsts (by simp) (by rfl) (fun H5 b5 g5 => ?_)
    have y1 := b5 _ _ o1 (s4 _ _ y1)
    have y2 := b5 _ _ o2 f4
    walk_at "rd"
    intro a3 H6 n6 s6 f6
    have o3 : a3 ≠ o := (ne1 n6 g5).symm
    have d13 : a1 ≠ a3 := ne1 n6 y1
    have d23 : a2 ≠ a3 := ne1 n6 y2
    walk_at "rd"
    refine r_setW (fs' := [("signs", V.ref a1), ("letters", .str (Str.ofString "")), ("firsts", .ref a2), ("pairs", .ref a3)]) (s6 _ _ g5) T.l_CaseRows T.n_CaseRows_pairs (by simp) (by rfl) (fun H7 b7 g7 => ?_)
    have y1 := b7 _ _ o1 (s6 _ _ y1)
    have y2 := b7 _ _ o2 (s6 _ _ y2)
    have y3 := b7 _ _ o3 f6
    walk_at "rd"
    refine r_setW (fs' := [("signs", V.ref a1), ("letters", .str (Str.ofString "")), ("firsts", .ref a2), ("pairs", .ref a3), ("longest", .non)]) g7 T.l_CaseRows T.n_CaseRows_longest (by simp) (by rfl) (fun H8 b8 g8 => ?_)
    have y1 := b8 _ _ o1 y1
    have y2 := b8 _ _ o2 y2
    have y3 := b8 _ _ o3 y3
    walk_at "rd"
    intro a4 H9 n9 s9 f9
    have o4 : a4 ≠ o := (ne1 n9 g8).symm
    have d14 : a1 ≠ a4 := ne1 n9 y1
    have d24 : a2 ≠ a4 := ne1 n9 y2
    have d34 : a3 ≠ a4 := ne1 n9 y3
    walk_at "rd"
    refine r_setW (fs' := [("signs", V.ref a1), ("letters", .str (Str.ofString "")), ("firsts", .ref a2), ("pairs", .ref a3), ("longest", .non), ("wants", .ref a4)]) (s9 _ _ g8) T.l_CaseRows T.n_CaseRows_wants (by simp) (by rfl) (fun H10 b10 g10 => ?_)
    have y1 := b10 _ _ o1 (s9 _ _ y1)
    have y2 := b10 _ _ o2 (s9 _ _ y2)
    have y3 := b10 _ _ o3 (s9 _ _ y3)
    have y4 := b10 _ _ o4 f9
    walk_at "rd"
    intro a5 H11 n11 s11 f11
    have o5 : a5 ≠ o := (ne1 n11 g10).symm
    have d15 : a1 ≠ a5 := ne1 n11 y1
    have d25 : a2 ≠ a5 := ne1 n11 y2
    have d35 : a3 ≠ a5 := ne1 n11 y3
    have d45 : a4 ≠ a5 := ne1 n11 y4
    walk_at "rd"
    refine r_setW (fs' := fl_CaseRows (.ref a1) (.str (S [])) (.ref a2) (.ref a3) .non (.ref a4) (.ref a5)) (s11 _ _ g10) T.l_CaseRows T.n_CaseRows_words (by simp) (by rfl) (fun H12 b12 g12 => ?_)
    have y1 := b12 _ _ o1 (s11 _ _ y1)
    have y2 := b12 _ _ o2 (s11 _ _ y2)
    have y3 := b12 _ _ o3 (s11 _ _ y3)
    have y4 := b12 _ _ o4 (s11 _ _ y4)
    have y5 := b12 _ _ o5 f11
    have kp : ∀ a u, a ≠ o → H a = some u → H12 a = some u := fun a u na h => b12 _ _ na (s11 _ _ (b10 _ _ na (s9 _ _ (b8 _ _ na (b7 _ _ na (s6 _ _ (b5 _ _ na (s4 _ _ (b3 _ _ na (b2 _ _ na (s1 _ _ h)))))))))))
    have bk : ∀ {a : Addr}, a ≠ o → ∀ {A B : Hp}, Z.But o A B → B a = none → A a = none := fun na _ _ b h => frB h na b
    have m2 : H a2 = none := s1.free (bk o2 b2 (bk o2 b3 n4))
    have m3 : H a3 = none := s1.free (bk o3 b2 (bk o3 b3 (s4.free (bk o3 b5 n6))))
    have m4 : H a4 = none := s1.free (bk o4 b2 (bk o4 b3 (s4.free (bk o4 b5 (s6.free (bk o4 b7 (bk o4 b8 n9)))))))
    have m5 : H a5 = none := s1.free (bk o5 b2 (bk o5 b3 (s4.free (bk o5 b5 (s6.free (bk o5 b7 (bk o5 b8 (s9.free (bk o5 b10 n11)))))))))
    have hall : ∀ a ∈ [a1, a2, a3, a4, a5], H a = none := fun a m => by
      simp only [List.mem_cons, List.not_mem_nil, or_false] at m
      rcases m with rfl | rfl | rfl | rfl | rfl
      · exact n1
      · exact m2
      · exact m3
      · exact m4
      · exact m5
    refine q a1 a2 a3 a4 a5 H12 kp hall ⟨g12, y1, .nil, y2, y3, y4, .nil, y5, ⟨fun a u h => ?_, fun a m => ?_, fun a m => ?_⟩, ?_⟩
    · have na : a ≠ o := fun e => by rw [e, nF] at h; cases h
      exact kp a u na (sF _ _ h)
    · rcases List.mem_cons.mp m with rfl | m
      · exact nF
      · exact sF.free (hall a m)
    · simp only [List.mem_cons, List.not_mem_nil, or_false] at m
      rcases m with rfl | rfl | rfl | rfl | rfl | rfl
      · exact ⟨_, g12⟩
      · exact ⟨_, y1⟩
      · exact ⟨_, y2⟩
      · exact ⟨_, y3⟩
      · exact ⟨_, y4⟩
      · exact ⟨_, y5⟩
    · simp only [List.nodup_cons, List.mem_cons, List.not_mem_nil, or_false, not_or, List.nodup_nil, not_false_eq_true, and_true]
      exact ⟨⟨o1.symm, o2.symm, o3.symm, o4.symm, o5.symm⟩, ⟨d12, d13, d14, d15⟩, ⟨d23, d24, d25⟩, ⟨d34, d35⟩, d45⟩
end
end My

namespace My
open PySem PySem.Spec PyProof.Rows L2 Z M SX TL
local macro_rules | `(tactic| walk_at "rd1") => `(tactic| first
  | ((with_reducible refine Z.r_fldHd ?_); first | ((with_reducible refine Z.r_fldW (dx := ?dx) ?h (Txt.l_CaseRows (by assumption)) (Txt.n_CaseRows_signs (by assumption)) (gl_CaseRows_signs (v0 := ?v0) (v1 := ?v1) (v2 := ?v2) (v3 := ?v3) (v4 := ?v4) (v5 := ?v5) (v6 := ?v6)) ?_); (case h => walk_at "lk")) | ((with_reducible refine Z.r_fldW (dx := ?dx) ?h (Txt.l_CaseRows (by assumption)) (Txt.n_CaseRows_letters (by assumption)) (gl_CaseRows_letters (v0 := ?v0) (v1 := ?v1) (v2 := ?v2) (v3 := ?v3) (v4 := ?v4) (v5 := ?v5) (v6 := ?v6)) ?_); (case h => walk_at "lk")) | ((with_reducible refine Z.r_fldW (dx := ?dx) ?h (Txt.l_CaseRows (by assumption)) (Txt.n_CaseRows_firsts (by assumption)) (gl_CaseRows_firsts (v0 := ?v0) (v1 := ?v1) (v2 := ?v2) (v3 := ?v3) (v4 := ?v4) (v5 := ?v5) (v6 := ?v6)) ?_); (case h => walk_at "lk")) | ((with_reducible refine Z.r_fldW (dx := ?dx) ?h (Txt.l_CaseRows (by assumption)) (Txt.n_CaseRows_pairs (by assumption)) (gl_CaseRows_pairs (v0 := ?v0) (v1 := ?v1) (v2 := ?v2) (v3 := ?v3) (v4 := ?v4) (v5 := ?v5) (v6 := ?v6)) ?_); (case h => walk_at "lk")) | ((with_reducible refine Z.r_fldW (dx := ?dx) ?h (Txt.l_CaseRows (by assumption)) (Txt.n_CaseRows_longest (by assumption)) (gl_CaseRows_longest (v0 := ?v0) (v1 := ?v1) (v2 := ?v2) (v3 := ?v3) (v4 := ?v4) (v5 := ?v5) (v6 := ?v6)) ?_); (case h => walk_at "lk")) | ((with_reducible refine Z.r_fldW (dx := ?dx) ?h (Txt.l_CaseRows (by assumption)) (Txt.n_CaseRows_wants (by assumption)) (gl_CaseRows_wants (v0 := ?v0) (v1 := ?v1) (v2 := ?v2) (v3 := ?v3) (v4 := ?v4) (v5 := ?v5) (v6 := ?v6)) ?_); (case h => walk_at "lk")) | ((with_reducible refine Z.r_fldW (dx := ?dx) ?h (Txt.l_CaseRows (by assumption)) (Txt.n_CaseRows_words (by assumption)) (gl_CaseRows_words (v0 := ?v0) (v1 := ?v1) (v2 := ?v2) (v3 := ?v3) (v4 := ?v4) (v5 := ?v5) (v6 := ?v6)) ?_); (case h => walk_at "lk")))
  | ((with_reducible refine Z.r_setHd ?_); first | ((with_reducible refine Z.r_setW (dx := ?dx) ?h (Txt.l_CaseRows (by assumption)) (Txt.n_CaseRows_signs (by assumption)) ln_CaseRows (pt_CaseRows_signs (v0 := ?v0) (v1 := ?v1) (v2 := ?v2) (v3 := ?v3) (v4 := ?v4) (v5 := ?v5) (v6 := ?v6)) ?_); (case h => walk_at "lk")) | ((with_reducible refine Z.r_setW (dx := ?dx) ?h (Txt.l_CaseRows (by assumption)) (Txt.n_CaseRows_letters (by assumption)) ln_CaseRows (pt_CaseRows_letters (v0 := ?v0) (v1 := ?v1) (v2 := ?v2) (v3 := ?v3) (v4 := ?v4) (v5 := ?v5) (v6 := ?v6)) ?_); (case h => walk_at "lk")) | ((with_reducible refine Z.r_setW (dx := ?dx) ?h (Txt.l_CaseRows (by assumption)) (Txt.n_CaseRows_firsts (by assumption)) ln_CaseRows (pt_CaseRows_firsts (v0 := ?v0) (v1 := ?v1) (v2 := ?v2) (v3 := ?v3) (v4 := ?v4) (v5 := ?v5) (v6 := ?v6)) ?_); (case h => walk_at "lk")) | ((with_reducible refine Z.r_setW (dx := ?dx) ?h (Txt.l_CaseRows (by assumption)) (Txt.n_CaseRows_pairs (by assumption)) ln_CaseRows (pt_CaseRows_pairs (v0 := ?v0) (v1 := ?v1) (v2 := ?v2) (v3 := ?v3) (v4 := ?v4) (v5 := ?v5) (v6 := ?v6)) ?_); (case h => walk_at "lk")) | ((with_reducible refine Z.r_setW (dx := ?dx) ?h (Txt.l_CaseRows (by assumption)) (Txt.n_CaseRows_longest (by assumption)) ln_CaseRows (pt_CaseRows_longest (v0 := ?v0) (v1 := ?v1) (v2 := ?v2) (v3 := ?v3) (v4 := ?v4) (v5 := ?v5) (v6 := ?v6)) ?_); (case h => walk_at "lk")) | ((with_reducible refine Z.r_setW (dx := ?dx) ?h (Txt.l_CaseRows (by assumption)) (Txt.n_CaseRows_wants (by assumption)) ln_CaseRows (pt_CaseRows_wants (v0 := ?v0) (v1 := ?v1) (v2 := ?v2) (v3 := ?v3) (v4 := ?v4) (v5 := ?v5) (v6 := ?v6)) ?_); (case h => walk_at "lk")) | ((with_reducible refine Z.r_setW (dx := ?dx) ?h (Txt.l_CaseRows (by assumption)) (Txt.n_CaseRows_words (by assumption)) ln_CaseRows (pt_CaseRows_words (v0 := ?v0) (v1 := ?v1) (v2 := ?v2) (v3 := ?v3) (v4 := ?v4) (v5 := ?v5) (v6 := ?v6)) ?_); (case h => walk_at "lk")))
  | ((with_reducible refine Z.r_methHd ?_); first | ((with_reducible refine Z.r_methW (dx := ?dx) ?h (ml_CaseRows_takes_sign (v0 := ?v0) (v1 := ?v1) (v2 := ?v2) (v3 := ?v3) (v4 := ?v4) (v5 := ?v5) (v6 := ?v6)) ?_); (case h => walk_at "lk")) | ((with_reducible refine Z.r_methSW (dx := ?dx) ?h (ml_CaseRows_takes_sign (v0 := ?v0) (v1 := ?v1) (v2 := ?v2) (v3 := ?v3) (v4 := ?v4) (v5 := ?v5) (v6 := ?v6)) ?_); (case h => walk_at "lk")) | ((with_reducible refine Z.r_methW (dx := ?dx) ?h (ml_CaseRows_is_open (v0 := ?v0) (v1 := ?v1) (v2 := ?v2) (v3 := ?v3) (v4 := ?v4) (v5 := ?v5) (v6 := ?v6)) ?_); (case h => walk_at "lk")) | ((with_reducible refine Z.r_methSW (dx := ?dx) ?h (ml_CaseRows_is_open (v0 := ?v0) (v1 := ?v1) (v2 := ?v2) (v3 := ?v3) (v4 := ?v4) (v5 := ?v5) (v6 := ?v6)) ?_); (case h => walk_at "lk")) | ((with_reducible refine Z.r_methW (dx := ?dx) ?h (ml_CaseRows_takes_first (v0 := ?v0) (v1 := ?v1) (v2 := ?v2) (v3 := ?v3) (v4 := ?v4) (v5 := ?v5) (v6 := ?v6)) ?_); (case h => walk_at "lk")) | ((with_reducible refine Z.r_methSW (dx := ?dx) ?h (ml_CaseRows_takes_first (v0 := ?v0) (v1 := ?v1) (v2 := ?v2) (v3 := ?v3) (v4 := ?v4) (v5 := ?v5) (v6 := ?v6)) ?_); (case h => walk_at "lk")) | ((with_reducible refine Z.r_methW (dx := ?dx) ?h (ml_CaseRows_takes_pair (v0 := ?v0) (v1 := ?v1) (v2 := ?v2) (v3 := ?v3) (v4 := ?v4) (v5 := ?v5) (v6 := ?v6)) ?_); (case h => walk_at "lk")) | ((with_reducible refine Z.r_methSW (dx := ?dx) ?h (ml_CaseRows_takes_pair (v0 := ?v0) (v1 := ?v1) (v2 := ?v2) (v3 := ?v3) (v4 := ?v4) (v5 := ?v5) (v6 := ?v6)) ?_); (case h => walk_at "lk")) | ((with_reducible refine Z.r_methW (dx := ?dx) ?h (ml_CaseRows_takes_longest (v0 := ?v0) (v1 := ?v1) (v2 := ?v2) (v3 := ?v3) (v4 := ?v4) (v5 := ?v5) (v6 := ?v6)) ?_); (case h => walk_at "lk")) | ((with_reducible refine Z.r_methSW (dx := ?dx) ?h (ml_CaseRows_takes_longest (v0 := ?v0) (v1 := ?v1) (v2 := ?v2) (v3 := ?v3) (v4 := ?v4) (v5 := ?v5) (v6 := ?v6)) ?_); (case h => walk_at "lk")) | ((with_reducible refine Z.r_methW (dx := ?dx) ?h (ml_CaseRows_takes_thing (v0 := ?v0) (v1 := ?v1) (v2 := ?v2) (v3 := ?v3) (v4 := ?v4) (v5 := ?v5) (v6 := ?v6)) ?_); (case h => walk_at "lk")) | ((with_reducible refine Z.r_methSW (dx := ?dx) ?h (ml_CaseRows_takes_thing (v0 := ?v0) (v1 := ?v1) (v2 := ?v2) (v3 := ?v3) (v4 := ?v4) (v5 := ?v5) (v6 := ?v6)) ?_); (case h => walk_at "lk")) | ((with_reducible refine Z.r_methW (dx := ?dx) ?h (ml_CaseRows_takes_word (v0 := ?v0) (v1 := ?v1) (v2 := ?v2) (v3 := ?v3) (v4 := ?v4) (v5 := ?v5) (v6 := ?v6)) ?_); (case h => walk_at "lk")) | ((with_reducible refine Z.r_methSW (dx := ?dx) ?h (ml_CaseRows_takes_word (v0 := ?v0) (v1 := ?v1) (v2 := ?v2) (v3 := ?v3) (v4 := ?v4) (v5 := ?v5) (v6 := ?v6)) ?_); (case h => walk_at "lk")) | ((with_reducible refine Z.r_methW (dx := ?dx) ?h (ml_CaseRows_takes (v0 := ?v0) (v1 := ?v1) (v2 := ?v2) (v3 := ?v3) (v4 := ?v4) (v5 := ?v5) (v6 := ?v6)) ?_); (case h => walk_at "lk")) | ((with_reducible refine Z.r_methSW (dx := ?dx) ?h (ml_CaseRows_takes (v0 := ?v0) (v1 := ?v1) (v2 := ?v2) (v3 := ?v3) (v4 := ?v4) (v5 := ?v5) (v6 := ?v6)) ?_); (case h => walk_at "lk")) | ((with_reducible refine Z.r_methW (dx := ?dx) ?h (ml_CaseRows_lacks (v0 := ?v0) (v1 := ?v1) (v2 := ?v2) (v3 := ?v3) (v4 := ?v4) (v5 := ?v5) (v6 := ?v6)) ?_); (case h => walk_at "lk")) | ((with_reducible refine Z.r_methSW (dx := ?dx) ?h (ml_CaseRows_lacks (v0 := ?v0) (v1 := ?v1) (v2 := ?v2) (v3 := ?v3) (v4 := ?v4) (v5 := ?v5) (v6 := ?v6)) ?_); (case h => walk_at "lk")) | ((with_reducible refine Z.r_methW (dx := ?dx) ?h (ml_CaseRows_made (v0 := ?v0) (v1 := ?v1) (v2 := ?v2) (v3 := ?v3) (v4 := ?v4) (v5 := ?v5) (v6 := ?v6)) ?_); (case h => walk_at "lk")) | ((with_reducible refine Z.r_methSW (dx := ?dx) ?h (ml_CaseRows_made (v0 := ?v0) (v1 := ?v1) (v2 := ?v2) (v3 := ?v3) (v4 := ?v4) (v5 := ?v5) (v6 := ?v6)) ?_); (case h => walk_at "lk")))
  | ((with_reducible refine Z.r_methSHd ?_); first | ((with_reducible refine Z.r_methW (dx := ?dx) ?h (ml_CaseRows_takes_sign (v0 := ?v0) (v1 := ?v1) (v2 := ?v2) (v3 := ?v3) (v4 := ?v4) (v5 := ?v5) (v6 := ?v6)) ?_); (case h => walk_at "lk")) | ((with_reducible refine Z.r_methSW (dx := ?dx) ?h (ml_CaseRows_takes_sign (v0 := ?v0) (v1 := ?v1) (v2 := ?v2) (v3 := ?v3) (v4 := ?v4) (v5 := ?v5) (v6 := ?v6)) ?_); (case h => walk_at "lk")) | ((with_reducible refine Z.r_methW (dx := ?dx) ?h (ml_CaseRows_is_open (v0 := ?v0) (v1 := ?v1) (v2 := ?v2) (v3 := ?v3) (v4 := ?v4) (v5 := ?v5) (v6 := ?v6)) ?_); (case h => walk_at "lk")) | ((with_reducible refine Z.r_methSW (dx := ?dx) ?h (ml_CaseRows_is_open (v0 := ?v0) (v1 := ?v1) (v2 := ?v2) (v3 := ?v3) (v4 := ?v4) (v5 := ?v5) (v6 := ?v6)) ?_); (case h => walk_at "lk")) | ((with_reducible refine Z.r_methW (dx := ?dx) ?h (ml_CaseRows_takes_first (v0 := ?v0) (v1 := ?v1) (v2 := ?v2) (v3 := ?v3) (v4 := ?v4) (v5 := ?v5) (v6 := ?v6)) ?_); (case h => walk_at "lk")) | ((with_reducible refine Z.r_methSW (dx := ?dx) ?h (ml_CaseRows_takes_first (v0 := ?v0) (v1 := ?v1) (v2 := ?v2) (v3 := ?v3) (v4 := ?v4) (v5 := ?v5) (v6 := ?v6)) ?_); (case h => walk_at "lk")) | ((with_reducible refine Z.r_methW (dx := ?dx) ?h (ml_CaseRows_takes_pair (v0 := ?v0) (v1 := ?v1) (v2 := ?v2) (v3 := ?v3) (v4 := ?v4) (v5 := ?v5) (v6 := ?v6)) ?_); (case h => walk_at "lk")) | ((with_reducible refine Z.r_methSW (dx := ?dx) ?h (ml_CaseRows_takes_pair (v0 := ?v0) (v1 := ?v1) (v2 := ?v2) (v3 := ?v3) (v4 := ?v4) (v5 := ?v5) (v6 := ?v6)) ?_); (case h => walk_at "lk")) | ((with_reducible refine Z.r_methW (dx := ?dx) ?h (ml_CaseRows_takes_longest (v0 := ?v0) (v1 := ?v1) (v2 := ?v2) (v3 := ?v3) (v4 := ?v4) (v5 := ?v5) (v6 := ?v6)) ?_); (case h => walk_at "lk")) | ((with_reducible refine Z.r_methSW (dx := ?dx) ?h (ml_CaseRows_takes_longest (v0 := ?v0) (v1 := ?v1) (v2 := ?v2) (v3 := ?v3) (v4 := ?v4) (v5 := ?v5) (v6 := ?v6)) ?_); (case h => walk_at "lk")) | ((with_reducible refine Z.r_methW (dx := ?dx) ?h (ml_CaseRows_takes_thing (v0 := ?v0) (v1 := ?v1) (v2 := ?v2) (v3 := ?v3) (v4 := ?v4) (v5 := ?v5) (v6 := ?v6)) ?_); (case h => walk_at "lk")) | ((with_reducible refine Z.r_methSW (dx := ?dx) ?h (ml_CaseRows_takes_thing (v0 := ?v0) (v1 := ?v1) (v2 := ?v2) (v3 := ?v3) (v4 := ?v4) (v5 := ?v5) (v6 := ?v6)) ?_); (case h => walk_at "lk")) | ((with_reducible refine Z.r_methW (dx := ?dx) ?h (ml_CaseRows_takes_word (v0 := ?v0) (v1 := ?v1) (v2 := ?v2) (v3 := ?v3) (v4 := ?v4) (v5 := ?v5) (v6 := ?v6)) ?_); (case h => walk_at "lk")) | ((with_reducible refine Z.r_methSW (dx := ?dx) ?h (ml_CaseRows_takes_word (v0 := ?v0) (v1 := ?v1) (v2 := ?v2) (v3 := ?v3) (v4 := ?v4) (v5 := ?v5) (v6 := ?v6)) ?_); (case h => walk_at "lk")) | ((with_reducible refine Z.r_methW (dx := ?dx) ?h (ml_CaseRows_takes (v0 := ?v0) (v1 := ?v1) (v2 := ?v2) (v3 := ?v3) (v4 := ?v4) (v5 := ?v5) (v6 := ?v6)) ?_); (case h => walk_at "lk")) | ((with_reducible refine Z.r_methSW (dx := ?dx) ?h (ml_CaseRows_takes (v0 := ?v0) (v1 := ?v1) (v2 := ?v2) (v3 := ?v3) (v4 := ?v4) (v5 := ?v5) (v6 := ?v6)) ?_); (case h => walk_at "lk")) | ((with_reducible refine Z.r_methW (dx := ?dx) ?h (ml_CaseRows_lacks (v0 := ?v0) (v1 := ?v1) (v2 := ?v2) (v3 := ?v3) (v4 := ?v4) (v5 := ?v5) (v6 := ?v6)) ?_); (case h => walk_at "lk")) | ((with_reducible refine Z.r_methSW (dx := ?dx) ?h (ml_CaseRows_lacks (v0 := ?v0) (v1 := ?v1) (v2 := ?v2) (v3 := ?v3) (v4 := ?v4) (v5 := ?v5) (v6 := ?v6)) ?_); (case h => walk_at "lk")) | ((with_reducible refine Z.r_methW (dx := ?dx) ?h (ml_CaseRows_made (v0 := ?v0) (v1 := ?v1) (v2 := ?v2) (v3 := ?v3) (v4 := ?v4) (v5 := ?v5) (v6 := ?v6)) ?_); (case h => walk_at "lk")) | ((with_reducible refine Z.r_methSW (dx := ?dx) ?h (ml_CaseRows_made (v0 := ?v0) (v1 := ?v1) (v2 := ?v2) (v3 := ?v3) (v4 := ?v4) (v5 := ?v5) (v6 := ?v6)) ?_); (case h => walk_at "lk")))
  | with_reducible refine Z.r_fld ?_
  | with_reducible refine Z.r_sfld ?_
  | with_reducible refine Z.r_afld ?_
  | with_reducible refine Z.r_meth ?_
  | with_reducible refine Z.r_methS ?_
  | with_reducible refine Z.r_make ?_)
section
variable {P : Program} {w : World} {K : PySem.W.Frag} {mg : Str → Option Value} {base : Heap}
/-! ### read_case -/
def readQ (K : PySem.W.Frag) (rows : List (List Nat)) (H : Hp) (Q : VK) (E : XK) : Prop := match readRows RS.nil 0 rows with
  | .inl i => ∀ H', Same H H' → rais K "NoText" "row" (.int (i : Nat)) H' E
  | .inr s => if lacks s = true then ∀ H', Same H H' → rais K "NoText" "row" (.int (rows.length : Nat)) H' E else ∃ lo, s.lo = some lo ∧
    ∀ c tt vb a1 a2 a3 a4 a5 xs ys F H', Same H H' → H' c = some (.tup [.ref tt, .ref a4, vb]) → H' tt = some (.tup [.ref a1, .ref a2, .ref a3, .int (lo : Nat)]) → vb = (if s.bk = [] then .non else .ref a5) →
      H' a1 = some (.lst xs) → DqAll F xs (s.sg.map sgD) → H' a2 = some (.lst (s.fi.map V.str)) → H' a3 = some (.lst (s.pa.map V.str)) → H' a4 = some (.lst ys) → DqAll F ys (wsD s.ws) → H' a5 = some (.lst (s.bk.map V.str)) →
      Fz [a1, a2, a3, a4, a5] F H' → Same H F → (∀ a ∈ [a1, a2, a3, a4, a5], H a = none) → [a1, a2, a3, a4, a5].Nodup → Q (.ref c) H'
def sp_read (K : PySem.W.Frag) : Sp := fun vs H Q E => ∃ x, vs = [x] ∧ ((∃ l, x = .str (S l) ∧ l.length ≤ 900000 ∧ (∀ r ∈ spN l, r.length ≤ 3000) ∧ readQ K (spN l) H Q E) ∨ ((∃ d, Dq H x d ∧ isStr d = false) ∧ rais K "NoText" "row" (.int 0) H E))
theorem rr_inr {rows : List (List Nat)} {s s0 : RS} {i : Nat} {r : List Nat} (h : readRows s0 0 rows = readRows s i (rows.drop i)) (hi : i < rows.length) (hr : rows[i] = r) : readRows s0 0 rows = match takeRow s r with
    | none => .inl i
    | some s' => readRows s' (i + 1) (rows.drop (i + 1)) := by
  rw [h, List.drop_eq_getElem_cons hi, hr]
  rfl
theorem oki_NoText (T : Txt K mg) : Z.Oi P w K mg base "NoText" "row" := by
  refine T.i_NoText.oi sci_NoText (fun _ _ _ _ _ _ us hl => match us, hl with | [_, _], _ => rfl) (fun cdv A outer s H vs Q E hr h => ⟨_, (pss_cons (ps_expr (pe_dearI rfl T.k_DearError T.ex.d (pa_cons (pv 0) (pa_cons (pe_joined (PJ.cons pe_str (PJ.cons (pe_fmtN (pv 1)) PJ.nil))) pa_nil))))
  (pss_one (ps_ost (pv 0) (pv 1)))), ?_⟩)
  obtain ⟨a, y, rfl, ha, hf, q⟩ := h
  rw [sti_NoText]
  walk_at "st"
  walk_at "rd"
  refine r_fmtNV hf (fun z hz => ?_)
  refine r_jsV (by decide) hz (fun z => ?_)
  walk_at "rd"
  refine ⟨a, _, _, rfl, by simp, (T.ex.i ("NoText", "row") (by simp)).oe, ha, ?_⟩
  walk_at "rd"
  exact ⟨a, _, rfl, (T.ex.i ("NoText", "row") (by simp)).oe, (T.ex.i ("NoText", "row") (by simp)).no, Or.inl ⟨ha, fun d h1 h2 => q d h1 h2⟩⟩
theorem ok_read_case (T : Txt K mg) : Z.CE P w K mg base 8 "read_case" (sp_read K) := by
  refine T.d_read_case.ce sc_read_case (fun vs H Q E h => ?_) (Z.bd0 fun _ _ _ _ _ _ us hl => match us, hl with | [_], _ => rfl) (fun f cdv A outer s H vs Q E hr h => ⟨_, (pss_cons (ps_if (pt_not (pt_val (pe_callB (k_isi K) rfl T.b_isinstance (by decide +kernel) (pa_cons (pv 0) (pa_cons (pe_bltn (v := .ty "str") rfl T.b_str (by decide +kernel) rfl) pa_nil)))))
  (pss_one (ps_raiO K rfl (takes_of rfl rfl rfl rfl) (T.ex.i ("NoText", "row") (by simp)) (oki_NoText T) hr (by decide) rfl (pa_cons pe_int pa_nil))) pss_nil)
  (pss_cons (ps_set (i := 1) sc_read_case.nd rfl (Or.inl rfl) (pe_mk0 (okm_CaseRows___init__ T) hr (by decide) rfl T.k_CaseRows))
  (pss_cons (ps_set (i := 2) sc_read_case.nd rfl (Or.inl rfl) (k_bm K PySem.F.plainAttrs_str PySem.F.slot_str_split PySem.F.type_str_split mt_splitP (pv 0) (pa_cons pe_str pa_nil)))
  (pss_cons (ps_for (passes_of rfl) rfl (k_iE K (by rfl) T.b_enumerate (pa_cons (pv 2) pa_nil)) (k_tup (n := 2) K rfl (pgs_cons (pg_name (i := 3) sc_read_case.nd rfl (Or.inl rfl)) (pgs_cons (pg_name (i := 4) sc_read_case.nd rfl (Or.inl rfl)) pgs_nil)))
  (pss_one (ps_if (pt_not (pt_val (pe_m (okm_CaseRows_takes T) T.l_CaseRows hr (by decide) (pv 1) (pa_cons (pv 4) pa_nil))))
  (pss_one (ps_raiO K rfl (takes_of rfl rfl rfl rfl) (T.ex.i ("NoText", "row") (by simp)) (oki_NoText T) hr (by decide) rfl (pa_cons (pv 3) pa_nil))) pss_nil)))
  (pss_cons (ps_if (pt_val (pe_mz (okm_CaseRows_lacks T) T.l_CaseRows hr (by decide) (pv 1)))
  (pss_one (ps_raiO K rfl (takes_of rfl rfl rfl rfl) (T.ex.i ("NoText", "row") (by simp)) (oki_NoText T) hr (by decide) rfl (pa_cons (pe_callB (k_len K) rfl T.b_len (by decide +kernel) (pa_cons (pv 2) pa_nil)) pa_nil))) pss_nil)
  (pss_one (ps_ret (pe_mz (okm_CaseRows_made T) T.l_CaseRows hr (by decide) (pv 1))))))))), ?_⟩)
  · obtain ⟨x, rfl, _⟩ := h
    rfl
  · obtain ⟨x, rfl, h⟩ := h
    rw [st_read_case]
    walk_at "st"
    rcases h with ⟨l, rfl, hl, hrows, q⟩ | ⟨⟨d, hd, hs⟩, r⟩
    · have hsl := M.S_len l
      walk_at "rd"
      refine r_makeW (fun o dx H1 n1 s1 f1 => ?_)
      refine ⟨H, o, dx, rfl, s1, n1, f1, fun a1 a2 a3 a4 a5 H2 kp hall R => ⟨rfl, ?_⟩⟩
      have s2 : Same H H2 := fun a u h => kp a u (ne_of_none h n1) (s1 _ _ h)
      have hall0 : ∀ a ∈ [a1, a2, a3, a4, a5], H a = none := fun a m => s1.free (hall a m)
      clear f1 s1 kp hall
      walk_at "rd"
      intro rl H3 n3 s3 f3
      rw [split_N] at f3
      obtain ⟨e3, q3⟩ := R.z.new n3 s3 f3
      have R3 := R.ext e3
      have sHF : Same H (upd H rl (.lst (((spN l).map S).map V.str))) := e3.f
      have sH3 := s2.trans s3
      clear R s2 s3 f3 e3
      revert sHF R3 q3
      generalize upd H rl (.lst (((spN l).map S).map V.str)) = F3
      intro q3 R3 sHF
      have hmany := spl_many1 10 l []
      have hne := spl_ne1 10 l []
      have hml : (((spN l).map S).map V.str).length = (spN l).length := by rw [List.length_map, List.length_map]
      unfold readQ at q
      obtain ⟨rows, er⟩ : ∃ rows, rows = spN l := ⟨_, rfl⟩
      rw [show spl [10] 0 [] l = rows from er.symm] at hmany
      rw [← er] at hrows q q3 hml
      clear er hne
      have h0 := R3.z.get q3
      walk_at "rd"
      refine forW (walk_enum (xs := (rows.map S).map V.str)) (fun i σ G => ∃ (z3 z4 : Option V) (F : Hp) (xs ys : List V) (s : RS), σ = [some (.str (S l)), some (.ref o), some (.ref rl), z3, z4] ∧ RsA K F G o dx a1 a2 a3 a4 a5 xs ys s ∧ RsK i s ∧ Same F3 F ∧ Same H G ∧ readRows RS.nil 0 rows = readRows s i (rows.drop i)) ⟨none, none, F3, [], [], RS.nil, rfl, R3, RsK.nil, Same.refl _, sH3, rfl⟩ (fun i σ G _ ⟨_, _, F, _, _, _, _, R, _, sF, _⟩ => sqL (R.z.get (sF _ _ q3))) ?_ ?_
      · rintro i x σ G G1 hi ⟨z3, z4, F, xs, ys, s, rfl, R, k, sF, sG, hs⟩ y
        obtain ⟨T1, x1, x2, rfl, hT, rfl, hx1, hx2⟩ := y
        have e1 : Same G (upd G T1 (.tup [x1, x2])) := Same.new hT
        have f1 : (upd G T1 (.tup [x1, x2])) T1 = some (.tup [x1, x2]) := upd_same
        revert e1 f1
        generalize upd G T1 (.tup [x1, x2]) = G1
        intro e1 f1
        obtain rfl : V.int (i : Nat) = x1 := Option.some.inj hx1
        have hi2 : i < rows.length := by rw [← hml]; exact hi
        obtain rfl : V.str (S rows[i]) = x2 := by
          have hx2 : ((rows.map S).map V.str)[i]? = some x2 := hx2
          rw [List.getElem?_map, List.getElem?_map, List.getElem?_eq_getElem hi2] at hx2
          exact Option.some.inj hx2
        have R1 := R.ext (R.z.same e1)
        have hrr := rr_inr hs hi2 rfl
        have hrl := hrows _ (List.getElem_mem hi2)
        have ho := R1.ob
        have sG1 := sG.trans e1
        clear hx1 hx2 hT R sG
        walk_at "rd"
        refine ⟨F, o, dx, a1, a2, a3, a4, a5, xs, ys, s, i, rows[i], rfl, R1, k, by omega, hrl, fun F2 G2 xs' ys' m R2 => ?_⟩
        have sG2 : Same H G2 := fun a u h => m.x a u (fun mm => by
          rcases List.mem_cons.mp mm with rfl | mm
          · rw [n1] at h; cases h
          · rw [hall0 a mm] at h; cases h) (sG1 _ _ h)
        cases ht : takeRow s rows[i] with
        | none =>
          rw [Option.isSome_none]
          rw [ht] at hrr
          rw [hrr] at q
          walk_at "rd"
          refine r_raiE (fmt_nat (by omega)) (fun d hd => ?_)
          exact q G2 sG2 d _ hd (Same.new hd) upd_same
        | some s' =>
          rw [Option.isSome_some]
          rw [ht] at hrr R2
          walk_at "rd"
          exact ⟨_, _, F2, xs', ys', s', rfl, R2, takeRow_k k ht, sF.trans m.f, sG2, hrr⟩
      · rintro σ G ⟨z3, z4, F, xs, ys, s, rfl, R, k, sF, sG, hs⟩
        rw [hml, List.drop_length] at hs
        replace hs : readRows RS.nil 0 rows = .inr s := hs
        rw [hs] at q
        have ho := R.ob
        walk_at "rd"
        refine ⟨F, o, dx, a1, a2, a3, a4, a5, xs, ys, s, _, rfl, R, k, fun G1 e1 => ?_⟩
        have R1 := R.ext (R.z.same e1)
        have ho1 := R1.ob
        have hrl1 := R1.z.get (sF _ _ q3)
        cases hla : lacks s with
        | true =>
          dsimp only at q
          rw [if_pos hla] at q
          walk_at "rd"
          rw [hml]
          refine r_raiE (fmt_nat (by omega)) (fun d hd => ?_)
          exact q G1 (sG.trans e1) d _ hd (Same.new hd) upd_same
        | false =>
          dsimp only at q
          rw [if_neg (by rw [hla]; exact Bool.false_ne_true)] at q
          obtain ⟨lo, hlo, q⟩ := q
          walk_at "rd"
          refine ⟨F, o, dx, a1, a2, a3, a4, a5, xs, ys, s, _, lo, rfl, R1, k, hlo, fun c tt vb G2 e2 hc ht hv => ?_⟩
          have R2 := R1.ext (R1.z.same e2)
          walk_at "rd"
          have z2 := R2.z
          have nd := R2.nd
          refine q c tt vb a1 a2 a3 a4 a5 xs ys F G2 (sG.trans (e1.trans e2)) hc ht hv R2.h1 R2.d1 R2.h2 R2.h3 R2.h4 R2.d4 R2.h5 z2.tail (sHF.trans sF) hall0 (List.nodup_cons.mp nd).2
    · walk_at "rd"
      rw [hs]
      walk_at "rd"
      refine r_raiE (fmt_int (i := 0) (by decide) (by decide +kernel)) (fun d hd => ?_)
      exact r d _ hd (Same.new hd) upd_same
end
end My

namespace My
open PySem PySem.Spec PyProof.Rows L2 Z M SX TL
section
variable {P : Program} {w : World} {K : PySem.W.Frag} {mg : Str → Option Value} {base : Heap}
/-! ### the same, part by part -/
def okD : Nat → PyData → Bool
  | 0, _ => false
  | n + 1, .list ds => ds.all (okD n)
  | n + 1, .tuple ds => ds.all (okD n)
  | _ + 1, .none => true
  | _ + 1, .str _ => true
  | _ + 1, .int _ => true
  | _ + 1, _ => false
theorem kit2 {K : PySem.W.Frag} {a : String} {b c : Bool} (h1 : kitB a "list" = some b) (h2 : kitB a "tuple" = some c) : PySem.W.kitAny K (.type a) [.type "list", .type "tuple"] = some (b || c) := by
  cases b with
  | true => exact kitAny_cons (kit_ty h1) (fun z => nomatch z) fun _ => rfl
  | false =>
    refine kitAny_cons (kit_ty h1) (fun _ => ?_) fun z => nomatch z
    cases c with
    | true => exact kitAny_cons (kit_ty h2) (fun z => nomatch z) fun _ => rfl
    | false => exact kitAny_cons (kit_ty h2) (fun _ => rfl) fun z => nomatch z
theorem r_isQT {K : PySem.W.Frag} {H : Hp} {Q : VK} {x : V} {d : PyData} {tp : Addr} (h : Dq H x d) (ht : H tp = some (.tup [.ty "list", .ty "tuple"])) (q : Q (.bl (isList d || isTuple d)) H) : rIsiT K [x, .ref tp] H Q := by
  have cs : Paired ClsV [V.ty "list", V.ty "tuple"] [Value.type "list", Value.type "tuple"] := .cons (.ty "list") (.cons (.ty "tuple") .nil)
  cases h with
  | non => exact ⟨_, tp, _, .type "NoneType", _, _, rfl, ht, cs, .base .non, kit2 (b := false) (c := false) (by decide +kernel) (by decide +kernel), q⟩
  | bl b => exact ⟨_, tp, _, .type "bool", _, _, rfl, ht, cs, .base (.bl b), kit2 (b := false) (c := false) (by decide +kernel) (by decide +kernel), q⟩
  | int i => exact ⟨_, tp, _, .type "int", _, _, rfl, ht, cs, .base (.int i), kit2 (b := false) (c := false) (by decide +kernel) (by decide +kernel), q⟩
  | str z hz => exact ⟨_, tp, _, .type "str", _, _, rfl, ht, cs, .base (.str z), kit2 (b := false) (c := false) (by decide +kernel) (by decide +kernel), q⟩
  | lst a r n => exact ⟨_, tp, _, .type "list", _, _, rfl, ht, cs, .base (.lst a), kit2 (b := true) (c := false) (by decide +kernel) (by decide +kernel), q⟩
  | tup a r n => exact ⟨_, tp, _, .type "tuple", _, _, rfl, ht, cs, .base (.tup a), kit2 (b := false) (c := true) (by decide +kernel) (by decide +kernel), q⟩
  | dic a => exact ⟨_, tp, _, .type "dict", _, _, rfl, ht, cs, .base (.dK a), kit2 (b := false) (c := false) (by decide +kernel) (by decide +kernel), q⟩
def sp_same (K : PySem.W.Frag) (n : Nat) : Sp := fun vs H Q _ => ∃ x y d, vs = [x, y] ∧ Dq H x d ∧ Dq H y d ∧ okD n d = true ∧ ∀ H', Same H H' → Q (.bl true) H'
theorem okr_law_same (T : Txt K mg) (n : Nat) (ih : Z.C0 P w K mg base (1 + n) "_law_same" (sp_same K n)) : Z.C0 P w K mg base (1 + n + 1) "_law_same" (sp_same K (n + 1)) := by
  refine T.d_law_same.c0 sc_law_same (fun vs H Q E h => ?_) (Z.bd0 fun _ _ _ _ _ _ us hl => match us, hl with | [_, _], _ => rfl) (fun f cdv A outer s H vs Q E hr h => ⟨_, (pss_cons (ps_if (pt_val (pe_callB (k_isiT K) rfl T.b_isinstance (by decide +kernel) (pa_cons (pv 1) (pa_cons (pe_tup (pa_cons (pe_bltn (v := .ty "list") rfl T.b_list (by decide +kernel) rfl) (pa_cons (pe_bltn (v := .ty "tuple") rfl T.b_tuple (by decide +kernel) rfl) pa_nil))) pa_nil))))
  (pss_cons (ps_if (PW.pt (pw_or (pt_not (pt_val (pe_callB (k_isiT K) rfl T.b_isinstance (by decide +kernel) (pa_cons (pv 0) (pa_cons (pe_tup (pa_cons (pe_bltn (v := .ty "list") rfl T.b_list (by decide +kernel) rfl) (pa_cons (pe_bltn (v := .ty "tuple") rfl T.b_tuple (by decide +kernel) rfl) pa_nil))) pa_nil))))) (pw_or1 (pt_cmpR (k_neP K hr.units) (pe_callB (k_isi K) rfl T.b_isinstance (by decide +kernel) (pa_cons (pv 0) (pa_cons (pe_bltn (v := .ty "list") rfl T.b_list (by decide +kernel) rfl) pa_nil))) (pe_callB (k_isi K) rfl T.b_isinstance (by decide +kernel) (pa_cons (pv 1) (pa_cons (pe_bltn (v := .ty "list") rfl T.b_list (by decide +kernel) rfl) pa_nil))) (nomark _)))))
  (pss_one (ps_ret pe_bl)) pss_nil)
  (pss_cons (ps_if (pt_cmpR (k_neP K hr.units) (pe_callB (k_len K) rfl T.b_len (by decide +kernel) (pa_cons (pv 0) pa_nil)) (pe_callB (k_len K) rfl T.b_len (by decide +kernel) (pa_cons (pv 1) pa_nil)) (nomark _))
  (pss_one (ps_ret pe_bl)) pss_nil)
  (pss_one (ps_ret (pe_cmpR (k_eqP K hr.units) (pe_lc (own := [("_law_k", 2)]) rfl sc_law_same.nd (pi_range1 rfl T.b_range (pa_cons (pe_callB (k_len K) rfl T.b_len (by decide +kernel) (pa_cons (pv 1) pa_nil)) pa_nil)) (blkOk_by (N := ["_law_found", "_law_due", "_law_k"]) (sc := defScope s_law_same) (by decide +kernel)) (fun _ _ _ _ _ => (pg_name (i := 2) sc_law_same.nd rfl (Or.inl rfl))) (fun _ _ _ _ _ => (pts_one (pt_not (pt_val (pe_c0 ih hr (Nat.le_refl _) rfl (pa_cons (pe_ix (k_ix K) (pv 0) (pv 2) (fun _ _ => rfl)) (pa_cons (pe_ix (k_ix K) (pv 1) (pv 2) (fun _ _ => rfl)) pa_nil))))))) (fun _ _ _ _ _ => (pv 2))) (pe_lst pa_nil) (nomark _)))))) pss_nil)
  (pss_cons (ps_if (pt_cmpR op_isP (pv 1) pe_non (nomark _))
  (pss_one (ps_ret (pe_cmpR op_isP (pv 0) pe_non (nomark _)))) pss_nil)
  (pss_cons (ps_if (pt_val (pe_callB (k_isi K) rfl T.b_isinstance (by decide +kernel) (pa_cons (pv 1) (pa_cons (pe_bltn (v := .ty "str") rfl T.b_str (by decide +kernel) rfl) pa_nil))))
  (pss_one (ps_ret (pe_and (pe_callB (k_isi K) rfl T.b_isinstance (by decide +kernel) (pa_cons (pv 0) (pa_cons (pe_bltn (v := .ty "str") rfl T.b_str (by decide +kernel) rfl) pa_nil))) (pe_one (pe_cmpR (k_eqP K hr.units) (pv 0) (pv 1) (nomark _)))))) pss_nil)
  (pss_one (ps_ret (pe_and (pe_callB (k_isi K) rfl T.b_isinstance (by decide +kernel) (pa_cons (pv 0) (pa_cons (pe_bltn (v := .ty "int") rfl T.b_int (by decide +kernel) rfl) pa_nil))) (pe_and (pe_not (pe_callB (k_isi K) rfl T.b_isinstance (by decide +kernel) (pa_cons (pv 0) (pa_cons (pe_bltn (v := .ty "bool") rfl T.b_bool (by decide +kernel) rfl) pa_nil)))) (pe_one (pe_cmpR (k_eqP K hr.units) (pv 0) (pv 1) (nomark _)))))))))), ?_⟩)
  · obtain ⟨x, y, d, rfl, _⟩ := h
    rfl
  · obtain ⟨x, y, d, rfl, hx, hy, ho, q⟩ := h
    rw [st_law_same]
    walk_at "st"
    walk_at "rd"
    intro tp H1 n1 s1 f1
    have hx1 := hx.up s1
    have hy1 := hy.up s1
    have q1 : ∀ H', Same H1 H' → Q (.bl true) H' := fun H' e => q H' (s1.trans e)
    clear hx hy q
    walk_at "rd"
    refine r_isQT hy1 f1 ?_
    rcases hy1.split with ⟨rfl, rfl⟩ | ⟨b, rfl, rfl⟩ | ⟨i, rfl, rfl⟩ | ⟨zz, rfl, rfl, hz⟩ | ⟨a, ys, ds, rfl, rfl, h1, h2, hn⟩ | ⟨a, ys, ds, rfl, rfl, h1, h2, hn⟩ | ⟨a, rfl, rfl, h1⟩
    · obtain rfl := hx1.noneV
      rw [show (isList PyData.none || isTuple PyData.none) = false from rfl]
      walk_at "rd"
      exact q1 _ (Same.refl _)
    · exact absurd ho (by show ¬ (false = true); decide)
    · obtain rfl := hx1.intV
      rw [show (isList (PyData.int i) || isTuple (PyData.int i)) = false from rfl]
      walk_at "rd"
      rw [decide_eq_true (rfl : i = i)]
      exact q1 _ (Same.refl _)
    · obtain rfl := hx1.strV
      rw [show (isList (PyData.str zz) || isTuple (PyData.str zz)) = false from rfl]
      walk_at "rd"
      rw [decide_eq_true (rfl : zz = zz)]
      exact q1 _ (Same.refl _)
    · obtain ⟨a', xs', rfl, h1', h2'⟩ := hx1.list
      rw [show (isList (PyData.list ds) || isTuple (PyData.list ds)) = true from rfl]
      have l1 := h2.length
      have l2 := h2'.length
      walk_at "rd"
      intro tp2 H2 n2 s2 f2
      have g1 : H2 a = some (.lst ys) := s2 _ _ h1
      have g2 : H2 a' = some (.lst xs') := s2 _ _ h1'
      walk_at "rd"
      refine r_isQT (hx1.up s2) f2 ?_
      rw [show (isList (PyData.list ds) || isTuple (PyData.list ds)) = true from rfl]
      have d2 := h2.up s2
      have d2' := h2'.up s2
      have q2 : ∀ H', Same H2 H' → Q (.bl true) H' := fun H' e => q1 H' (s2.trans e)
      clear hx1 hy1 h1 h1' h2 h2' q1 s2 s1 f1 f2 n1 n2
      walk_at "rd"
      refine r_ndT rfl ?_
      walk_at "rd"
      refine r_ndT (by rw [l1, l2]) ?_
      walk_at "rd"
      refine lcW walk_r0 (fun i acc _ => acc = []) rfl (fun _ _ => trivial) (fun _ _ => rfl) ?_ ?_
      · rintro i x acc Dl H3 _ hi hD e1 e2 hl2 rfl ⟨rfl, rfl⟩
        have hi2 : i < ys.length := by omega
        have ha1 : atI xs' ((i : Nat) : Int) = some (xs'[i]'(by omega)) := atI_nat (List.getElem?_eq_getElem (by omega))
        have ha2 : atI ys ((i : Nat) : Int) = some ys[i] := atI_nat (List.getElem?_eq_getElem hi2)
        walk_at "rd"
        have hds : i < ds.length := by omega
        have hok : okD n ds[i] = true := List.all_eq_true.mp (show ds.all (okD n) = true from ho) _ (List.getElem_mem hds)
        refine ⟨_, _, ds[i], rfl, (d2'.up e1).get i (by omega) hds, (d2.up e1).get i hi2 hds, hok, fun H4 e4 => ?_⟩
        walk_at "rd"
        exact lc_skip (e1.trans e4) (e4 _ _ e2) hl2 rfl
      · rintro acc Dl H3 hD e1 e2 rfl
        walk_at "rd"
        intro l4 H4 n4 s4 f4
        refine r_eqD (d := .list []) (e := .list []) (.lst (sqL (s4 _ _ e2)) .nil) (.lst (sqL f4) .nil) ?_ (by decide +kernel) (by decide +kernel)
        rw [show PyData.eqv (.list []) (.list []) = true by decide +kernel]
        exact q2 H4 (e1.trans s4)
    · obtain ⟨a', xs', rfl, h1', h2'⟩ := hx1.tuple
      rw [show (isList (PyData.tuple ds) || isTuple (PyData.tuple ds)) = true from rfl]
      have l1 := h2.length
      have l2 := h2'.length
      walk_at "rd"
      intro tp2 H2 n2 s2 f2
      have g1 : H2 a = some (.tup ys) := s2 _ _ h1
      have g2 : H2 a' = some (.tup xs') := s2 _ _ h1'
      walk_at "rd"
      refine r_isQT (hx1.up s2) f2 ?_
      rw [show (isList (PyData.tuple ds) || isTuple (PyData.tuple ds)) = true from rfl]
      have d2 := h2.up s2
      have d2' := h2'.up s2
      have q2 : ∀ H', Same H2 H' → Q (.bl true) H' := fun H' e => q1 H' (s2.trans e)
      clear hx1 hy1 h1 h1' h2 h2' q1 s2 s1 f1 f2 n1 n2
      walk_at "rd"
      refine r_ndT rfl ?_
      walk_at "rd"
      refine r_ndT (by rw [l1, l2]) ?_
      walk_at "rd"
      refine lcW walk_r0 (fun i acc _ => acc = []) rfl (fun _ _ => trivial) (fun _ _ => rfl) ?_ ?_
      · rintro i x acc Dl H3 _ hi hD e1 e2 hl2 rfl ⟨rfl, rfl⟩
        have hi2 : i < ys.length := by omega
        have ha1 : atI xs' ((i : Nat) : Int) = some (xs'[i]'(by omega)) := atI_nat (List.getElem?_eq_getElem (by omega))
        have ha2 : atI ys ((i : Nat) : Int) = some ys[i] := atI_nat (List.getElem?_eq_getElem hi2)
        walk_at "rd"
        have hds : i < ds.length := by omega
        have hok : okD n ds[i] = true := List.all_eq_true.mp (show ds.all (okD n) = true from ho) _ (List.getElem_mem hds)
        refine ⟨_, _, ds[i], rfl, (d2'.up e1).get i (by omega) hds, (d2.up e1).get i hi2 hds, hok, fun H4 e4 => ?_⟩
        walk_at "rd"
        exact lc_skip (e1.trans e4) (e4 _ _ e2) hl2 rfl
      · rintro acc Dl H3 hD e1 e2 rfl
        walk_at "rd"
        intro l4 H4 n4 s4 f4
        refine r_eqD (d := .list []) (e := .list []) (.lst (sqL (s4 _ _ e2)) .nil) (.lst (sqL f4) .nil) ?_ (by decide +kernel) (by decide +kernel)
        rw [show PyData.eqv (.list []) (.list []) = true by decide +kernel]
        exact q2 H4 (e1.trans s4)
    · exact absurd ho (by show ¬ (false = true); decide)
theorem okn_law_same (T : Txt K mg) : ∀ n : Nat, Z.C0 P w K mg base (1 + n) "_law_same" (sp_same K n)
  | 0 => by
    refine T.d_law_same.c0 sc_law_same (fun vs H Q E h => ?_) (Z.bd0 fun _ _ _ _ _ _ us hl => match us, hl with | [_, _], _ => rfl) (fun f cdv A outer s H vs Q E hr h => ?_)
    · obtain ⟨x, y, d, rfl, _⟩ := h
      rfl
    · obtain ⟨x, y, d, _, _, _, ho, _⟩ := h
      exact absurd ho (by show ¬ (false = true); decide)
  | n + 1 => okr_law_same T n (okn_law_same T n)
theorem ok_law_same (T : Txt K mg) : Z.C0 P w K mg base 9 "_law_same" (sp_same K 8) := okn_law_same T 8
end
end My

namespace My
open PySem PySem.Spec PyProof.Rows L2 Z M SX TL
section
variable {P : Program} {w : World} {K : PySem.W.Frag} {mg : Str → Option Value} {base : Heap}
/-! ### the law -/
def boD : Option (List Str) → PyData
  | none => .none
  | some bs => strsD bs
def csD (t : Tg) (ws : List (Str × Nat)) (bo : Option (List Str)) : PyData := .tuple [tgD t, .list (wsD ws), boD bo]
theorem word_ok {z : Str} (h : wordOk z) : PyData.strOk z = true := by
  obtain ⟨l, rfl, _, _, h⟩ := h
  refine strOk_low (List.all_eq_true.mpr fun c hc => h c ?_)
  exact hc
theorem cs_lay {t : Tg} {ws : List (Str × Nat)} {bo : Option (List Str)} (h : CsOk t ws bo) : PyData.canLay0 (csD t ws bo) = true ∧ PyData.depth (csD t ws bo) ≤ 20 := by
  obtain ⟨a1, a2⟩ := tg_lay h.t.lay
  obtain ⟨b1, b2⟩ := wsD_lay ws h.w.nm
  have hb : PyData.canLay0 (boD bo) = true ∧ PyData.depth (boD bo) ≤ 10 := by
    cases e : bo with
    | none => exact ⟨rfl, by decide +kernel⟩
    | some bs =>
      obtain ⟨c1, c2⟩ := strs_lay bs fun z hz => word_ok ((h.b bs e).2 z hz)
      unfold boD strsD
      constructor
      · simp only [PyData.canLay0, c1]
      · simp only [PyData.depth, c2]
        omega
  obtain ⟨c1, c2⟩ := hb
  unfold csD
  constructor
  · simp only [PyData.canLay0, PyData.canLayAll0, a1, b1, c1]
    rfl
  · simp only [PyData.depth, PyData.depthAll]
    omega
theorem cs_shaped {t : Tg} {ws : List (Str × Nat)} {bo : Option (List Str)} (h : CsOk t ws bo) : SeqAt.shaped (csD t ws bo) = true := by
  obtain ⟨h1, h2⟩ := cs_lay h
  unfold SeqAt.shaped
  rw [h1, Bool.true_and]
  exact decide_eq_true (by omega)
theorem CsP.dq {H : Hp} {c T l : Addr} {vb : V} {t : Tg} {ws : List (Str × Nat)} {bo : Option (List Str)} {a1 a2 a3 : Addr} {xs ys : List V} (h : CsP H T l vb t ws bo a1 a2 a3 xs ys) (ok : CsOk t ws bo) (hc : H c = some (.tup [.ref T, .ref l, vb])) : Dq H (.ref c) (csD t ws bo) := by
  refine .tup hc (.cons h.t.dq (.cons (h.dqw ok.w.l2 (Same.refl _)) (.cons ?_ .nil))) (by simp)
  rcases h.b with ⟨rfl, rfl⟩ | ⟨o, bs, rfl, rfl, ho⟩
  · exact .non
  · obtain ⟨k1, k2⟩ := ok.b bs rfl
    have k3 := ok.w.l2
    exact .lst ho (dq_strs fun z hz => by have := word_len (k2 z hz); omega) (by rw [List.length_map]; omega)
/-! ### read back: plain facts -/
def bkL : Option (List Str) → List Str
  | none => []
  | some bs => bs
def rowsC (t : Tg) (ws : List (Str × Nat)) (bo : Option (List Str)) : List (List Nat) := (rowsS t ws bo).map tl
def rsOf (t : Tg) (ws : List (Str × Nat)) (bo : Option (List Str)) : RS := ⟨t.sg, t.fi, t.pa, some t.lo, ws, bkL bo⟩
theorem word_name {z : Str} (h : wordOk z) : nameOk z = true := by
  obtain ⟨l, rfl, h1, h2, h3⟩ := h
  show (decide (1 ≤ l.length ∧ l.length ≤ 8) && l.all low) = true
  rw [decide_eq_true ⟨h1, h2⟩, Bool.true_and]
  exact List.all_eq_true.mpr h3
theorem rowsC_eq (t : Tg) (ws : List (Str × Nat)) (bo : Option (List Str)) : rowsC t ws bo = t.sg.map (fun x => tl (signS x)) ++ (t.fi.map (fun z => tl (Str.ofString "first " ++ z)) ++ (t.pa.map (fun z => tl (Str.ofString "pair " ++ z)) ++ (tl (longS t.lo) :: (ws.map (fun w => tl (thingS w)) ++ (bkL bo).map fun z => tl (Str.ofString "word " ++ z))))) := by
  have e : bookS bo = (bkL bo).map fun z => Str.ofString "word " ++ z := by
    cases bo <;> rfl
  unfold rowsC rowsS
  rw [e]
  simp only [List.map_append, List.map_map, List.append_assoc, List.map_cons, List.map_nil, List.singleton_append, List.cons_append, List.nil_append]
  rfl
theorem letT_mem {t : Tg} {c : Nat} (h : S [c] ∈ lettersT t) : c ∈ t.sg.map Sg.c := by
  obtain ⟨s, hs, e⟩ := List.mem_map.mp h
  exact List.mem_map.mpr ⟨s, hs, S1_inj e⟩
theorem tg_firsts {t : Tg} (h : TgOk t) : ∀ z ∈ t.fi, ∃ c, z = S [c] ∧ c ∈ t.sg.map Sg.c ∧ low c = true := fun z hz => by
  have q := h.f1 z hz
  obtain ⟨c, rfl⟩ := letter_chars q
  exact ⟨c, rfl, letT_mem q, letter_low h q⟩
theorem tg_pairs {t : Tg} (h : TgOk t) : ∀ z ∈ t.pa, ∃ a b, z = S [a, b] ∧ a ∈ t.sg.map Sg.c ∧ b ∈ t.sg.map Sg.c ∧ low a = true ∧ low b = true := fun z hz => by
  obtain ⟨a, b, rfl, ha, hb⟩ := h.p1 z hz
  exact ⟨a, b, rfl, letT_mem ha, letT_mem hb, letter_low h ha, letter_low h hb⟩
theorem bk_ok {t : Tg} {ws : List (Str × Nat)} {bo : Option (List Str)} (ok : CsOk t ws bo) : (∀ z ∈ bkL bo, nameOk z = true) ∧ (bkL bo).length ≤ ws.length := by
  cases bo with
  | none => exact ⟨fun _ m => absurd m List.not_mem_nil, Nat.zero_le _⟩
  | some bs => exact ⟨fun z hz => word_name ((ok.b bs rfl).2 z hz), Nat.le_of_eq (ok.b bs rfl).1⟩
theorem rows_read {t : Tg} {ws : List (Str × Nat)} {bo : Option (List Str)} (ok : CsOk t ws bo) : readRows RS.nil 0 (rowsC t ws bo) = .inr (rsOf t ws bo) := by
  rw [rowsC_eq]
  rw [show RS.nil = ⟨[], [], [], none, [], []⟩ from rfl, rr_signs t.sg [] 0 _ ok.t.sg ok.t.n2 ok.t.nd, List.nil_append]
  rw [rr_firsts t.sg ok.t.n1 t.fi [] _ _ (tg_firsts ok.t) ok.t.f2, List.nil_append]
  rw [rr_pairs t.sg t.fi ok.t.n1 t.pa [] _ _ (tg_pairs ok.t) ok.t.p2, List.nil_append]
  rw [rr_cons (take_long (s := ⟨t.sg, t.fi, t.pa, none, [], []⟩) ok.t.n1 rfl ok.t.l1 ok.t.l2)]
  rw [rr_things t.sg t.fi t.pa t.lo ws [] _ _ (fun w hw => ⟨ok.w.nm w hw, ok.w.ct w hw⟩) ok.w.l2 ok.w.nd, List.nil_append]
  obtain ⟨h1, h2⟩ := bk_ok ok
  have e := rr_words t.sg t.fi t.pa (some t.lo) ws (bkL bo) [] (0 + t.sg.length + t.fi.length + t.pa.length + 1 + ws.length) [] h1 h2
  rw [List.append_nil, List.nil_append] at e
  exact e
theorem rs_whole {t : Tg} {ws : List (Str × Nat)} {bo : Option (List Str)} (ok : CsOk t ws bo) : lacks (rsOf t ws bo) = false := by
  have h1 := ok.w.l1
  unfold lacks rsOf
  dsimp only
  rw [decide_eq_false (fun e : ws = [] => by rw [e] at h1; exact absurd h1 (by decide)), Bool.false_or]
  cases bo with
  | none => rfl
  | some bs =>
    have := (ok.b bs rfl).1
    show (!(decide (bs.length = 0) || decide (bs.length = ws.length))) = false
    rw [decide_eq_true this, Bool.or_true]
    rfl
theorem row_free {t : Tg} {ws : List (Str × Nat)} {bo : Option (List Str)} (ok : CsOk t ws bo) : ∀ r ∈ rowsC t ws bo, 10 ∉ r := by
  intro r hr
  rw [rowsC_eq] at hr
  simp only [List.mem_append, List.mem_map, List.mem_cons] at hr
  have lw : ∀ {c : Nat}, low c = true → 10 ≠ c := fun h e => low_ne h (by omega) e.symm
  rcases hr with ⟨s, hs, rfl⟩ | ⟨z, hz, rfl⟩ | ⟨z, hz, rfl⟩ | rfl | ⟨w, hw, rfl⟩ | ⟨z, hz, rfl⟩
  · have hs := ok.t.sg s hs
    rw [tl_signS]
    simp only [List.mem_append, List.mem_cons, List.not_mem_nil, or_false, not_or]
    exact ⟨by decide +kernel, by decide, lw hs.c, by decide, frac_free (by omega) _ _, by decide, last_free (by omega) _⟩
  · obtain ⟨c, rfl, _, hl⟩ := tg_firsts ok.t z hz
    rw [firsts_tl _ _ rfl]
    simp only [List.mem_append, List.mem_cons, List.not_mem_nil, or_false, not_or]
    exact ⟨by decide +kernel, by decide, lw hl⟩
  · obtain ⟨a, b, rfl, _, _, ha, hb⟩ := tg_pairs ok.t z hz
    rw [pair_tl _ _ rfl]
    simp only [List.mem_append, List.mem_cons, List.not_mem_nil, or_false, not_or]
    exact ⟨by decide +kernel, by decide, lw ha, lw hb⟩
  · rw [tl_longS]
    simp only [List.mem_append, List.mem_cons, not_or]
    exact ⟨by decide +kernel, by decide, numL_free (by omega)⟩
  · rw [tl_thingS]
    simp only [List.mem_append, List.mem_cons, not_or]
    exact ⟨by decide +kernel, by decide, name_free (ok.w.nm w hw) (by omega), by decide, numL_free (by omega)⟩
  · rw [word_tl z (tl z) (mk_tl z).symm]
    simp only [List.mem_append, List.mem_cons, not_or]
    exact ⟨by decide +kernel, by decide, name_free ((bk_ok ok).1 z hz) (by omega)⟩
theorem rowsC_ne {t : Tg} {ws : List (Str × Nat)} {bo : Option (List Str)} : rowsC t ws bo ≠ [] := by
  rw [rowsC_eq]
  simp
def textC (t : Tg) (ws : List (Str × Nat)) (bo : Option (List Str)) : List Nat := joinL [10] (rowsC t ws bo)
theorem text_eq (t : Tg) (ws : List (Str × Nat)) (bo : Option (List Str)) : Txt.join (S [10]) (rowsS t ws bo) = S (textC t ws bo) := by
  unfold textC rowsC
  rw [← SX.join_S, List.map_map]
  congr 1
  have : (S ∘ tl) = id := funext fun z => mk_tl z
  rw [this, List.map_id]
theorem text_split {t : Tg} {ws : List (Str × Nat)} {bo : Option (List Str)} (ok : CsOk t ws bo) : spN (textC t ws bo) = rowsC t ws bo := TL.spl_join rowsC_ne (row_free ok)
theorem joinL_len : ∀ (l : List (List Nat)) (n : Nat), (∀ r ∈ l, r.length ≤ n) → (joinL [10] l).length ≤ l.length * (n + 1)
  | [], _, _ => Nat.zero_le _
  | [r], n, h => by
    have := h r List.mem_cons_self
    show r.length ≤ 1 * (n + 1)
    omega
  | r :: s :: l, n, h => by
    have h1 := h r List.mem_cons_self
    have h2 := joinL_len (s :: l) n fun x hx => h x (List.mem_cons_of_mem _ hx)
    show (r ++ ([10] ++ joinL [10] (s :: l))).length ≤ (s :: l).length.succ * (n + 1)
    rw [List.length_append, List.length_append, List.length_singleton, Nat.succ_mul]
    omega
theorem okD_mono : ∀ (d : Nat) (p : Nat × Nat), okD (d + 2) (fracD p) = true := fun d p => rfl
theorem okD_sg (s : Sg) : okD 4 (sgD s) = true := by
  unfold sgD
  cases s.l <;> rfl
theorem okD_tg (t : Tg) : okD 6 (tgD t) = true := by
  unfold tgD strsD
  show (okD 5 (.list (t.sg.map sgD)) && (okD 5 (.list (t.fi.map PyData.str)) && (okD 5 (.list (t.pa.map PyData.str)) && (okD 5 (.int _) && true)))) = true
  have h1 : okD 5 (.list (t.sg.map sgD)) = true := by
    show (t.sg.map sgD).all (okD 4) = true
    rw [List.all_map]
    exact List.all_eq_true.mpr fun s _ => okD_sg s
  have h2 : ∀ l : List Str, okD 5 (.list (l.map PyData.str)) = true := fun l => by
    show (l.map PyData.str).all (okD 4) = true
    rw [List.all_map]
    exact List.all_eq_true.mpr fun _ _ => rfl
  rw [h1, h2, h2]
  rfl
theorem okD_up : ∀ (n : Nat) (d : PyData), okD n d = true → okD (n + 1) d = true
  | 0, d, h => by cases h
  | n + 1, .list ds, h => List.all_eq_true.mpr fun x hx => okD_up n x (List.all_eq_true.mp (show ds.all (okD n) = true from h) x hx)
  | n + 1, .tuple ds, h => List.all_eq_true.mpr fun x hx => okD_up n x (List.all_eq_true.mp (show ds.all (okD n) = true from h) x hx)
  | _ + 1, .none, _ => rfl
  | _ + 1, .str _, _ => rfl
  | _ + 1, .int _, _ => rfl
  | _ + 1, .bool _, h => h
  | _ + 1, .dict _, h => h
theorem okD_cs (t : Tg) (ws : List (Str × Nat)) (bo : Option (List Str)) : okD 8 (csD t ws bo) = true := by
  unfold csD
  show (okD 7 (tgD t) && (okD 7 (.list (wsD ws)) && (okD 7 (boD bo) && true))) = true
  rw [okD_up 6 _ (okD_tg t)]
  have h1 : okD 7 (.list (wsD ws)) = true := by
    show (ws.map wantD).all (okD 6) = true
    rw [List.all_map]
    exact List.all_eq_true.mpr fun _ _ => rfl
  have h2 : okD 7 (boD bo) = true := by
    cases bo with
    | none => rfl
    | some bs =>
      show (bs.map PyData.str).all (okD 6) = true
      rw [List.all_map]
      exact List.all_eq_true.mpr fun _ _ => rfl
  rw [h1, h2]
  rfl
end
end My

namespace My
open PySem PySem.Spec PyProof.Rows L2 Z M SX TL
section
variable {P : Program} {w : World} {K : PySem.W.Frag} {mg : Str → Option Value} {base : Heap}
theorem at_in6 {z : Nat} (h : z < 6) {xs : List V} (hl : xs.length = 6) : ∃ v, atI xs ((z : Nat) : Int) = some v ∧ v ∈ xs := ⟨xs[z]'(by omega), atI_nat (List.getElem?_eq_getElem (by omega)), List.getElem_mem _⟩
theorem wsok_called {ws : List (Str × Nat)} (h : WsOk ws) {w0 : Str × Nat} {ws' : List (Str × Nat)} (e : ws = w0 :: ws') {z : Str} (hz : nameOk z = true) (hn : z ∉ ws.map (·.1)) : WsOk ((z, w0.2) :: ws') := by
  subst e
  have nd := h.nd
  rw [List.map_cons, List.nodup_cons] at nd
  rw [List.map_cons, List.mem_cons, not_or] at hn
  refine ⟨by simp, h.l2, ?_, fun w hw => ?_, fun w hw => ?_⟩
  · rw [List.map_cons, List.nodup_cons]
    exact ⟨hn.2, nd.2⟩
  · rcases List.mem_cons.mp hw with rfl | hw
    · exact hz
    · exact h.nm w (List.mem_cons_of_mem _ hw)
  · rcases List.mem_cons.mp hw with rfl | hw
    · exact h.ct w0 List.mem_cons_self
    · exact h.ct w (List.mem_cons_of_mem _ hw)
def sp_called (K : PySem.W.Frag) : Sp := fun vs H Q _ => ∃ (a : Addr) (ns : List Int) (c : Addr) (t : Tg) (ws : List (Str × Nat)) (bo : Option (List Str)), vs = [.ref a, .ref c] ∧ SqL K H a (ns.map V.int) ∧ ns.length ≤ 63 ∧ CsAt H c t ws bo ∧ CsOk t ws bo ∧
  ∀ c' t' ws' bo' H', CsOk t' ws' bo' → Same H H' → CsAt H' c' t' ws' bo' → Q (.ref c') H'
theorem ok_law_called (T : Txt K mg) : Z.C0 P w K mg base 2 "_law_called" (sp_called K) := by
  refine T.d_law_called.c0 sc_law_called (fun vs H Q E h => ?_) (Z.bd0 fun _ _ _ _ _ _ us hl => match us, hl with | [_, _], _ => rfl) (fun f cdv A outer s H vs Q E hr h => ⟨_, (pss_cons (ps_asg (pv 1) (k_tup (n := 3) K rfl (pgs_cons (pg_name (i := 2) sc_law_called.nd rfl (Or.inl rfl)) (pgs_cons (pg_name (i := 3) sc_law_called.nd rfl (Or.inl rfl)) (pgs_cons (pg_name (i := 4) sc_law_called.nd rfl (Or.inl rfl)) pgs_nil)))))
  (pss_cons (ps_set (i := 5) sc_law_called.nd rfl (Or.inl rfl) (pe_c0 (ok_law_pool T) hr (by decide) rfl (pa_cons (pv 0) (pa_cons (pe_callB (call_maxP rfl) rfl T.b_max (by decide +kernel) (pa_cons pe_int (pa_cons (pe_op op_subI (pe_callB (k_len K) rfl T.b_len (by decide +kernel) (pa_cons (pv 0) pa_nil)) pe_int) pa_nil))) pa_nil))))
  (pss_cons (ps_set (i := 6) sc_law_called.nd rfl (Or.inl rfl) (pe_ix (k_ix K) (pe_lst (pa_cons pe_str (pa_cons pe_str (pa_cons pe_str (pa_cons pe_str (pa_cons pe_str (pa_cons pe_str pa_nil))))))) (pe_c0 (ok_law_take T) hr (by decide) rfl (pa_cons (pv 5) (pa_cons pe_int pa_nil))) (fun _ _ => rfl)))
  (pss_cons (ps_if (PW.pt (pw_or (pt_cmpR op_gtI (pe_c0 (ok_law_take T) hr (by decide) rfl (pa_cons (pv 5) (pa_cons pe_int pa_nil))) pe_int (nomark _)) (pw_or1 (pt_cmpR (k_inP K) (pv 6) (pe_lc (own := [("_law_want", 7)]) rfl sc_law_called.nd (k_iL K (pv 3)) (blkOk_by (N := ["_law_script", "_law_case_here", "_law_tongue_here", "_law_wants_here", "_law_book", "_law_pool_here", "_law_word", "_law_want"]) (sc := defScope s_law_called) (by decide +kernel)) (fun _ _ _ _ _ => (pg_name (i := 7) sc_law_called.nd rfl (Or.inl rfl))) (fun _ _ _ _ _ => pts_nil) (fun _ _ _ _ _ => (pe_ix (k_ix K) (pv 7) pe_int (fun _ _ => rfl)))) (by rfl)))))
  (pss_one (ps_ret (pv 1))) pss_nil)
  (pss_one (ps_ret (pe_tup (pa_cons (pv 2) (pa_cons (pe_op (k_addP K) (pe_lst (pa_cons (pe_tup (pa_cons (pv 6) (pa_cons (pe_ix (k_ix K) (pe_ix (k_ix K) (pv 3) pe_int (fun _ _ => rfl)) pe_int (fun _ _ => rfl)) pa_nil))) pa_nil)) (pe_slice (k_sl K) (pv 3) (po_some pe_int) po_none)) (pa_cons (pv 4) pa_nil)))))))))), ?_⟩)
  · obtain ⟨a, ns, c, t, ws, bo, rfl, _⟩ := h
    rfl
  · obtain ⟨a, ns, c, t, ws, bo, rfl, ha, hl, ⟨TT, l, vb, a1, a2, a3, xs, ys, hc, cp⟩, ok, q⟩ := h
    rw [st_law_called]
    walk_at "st"
    have hnl : (ns.map V.int).length = ns.length := List.length_map _
    walk_at "rd"
    rw [hnl]
    rw [show (if ((ns.length : Nat) : Int) - 1 > 0 then ((ns.length : Nat) : Int) - 1 else 0) = ((ns.length - 1 : Nat) : Int) by split <;> omega]
    refine ⟨a, ns, ns.length - 1, rfl, ha, by omega, fun p H1 n1 s1 q1 => ?_⟩
    have z1 : Fz [p] H H1 := ⟨s1, fun b m => by rw [List.mem_singleton.mp m]; exact n1, fun b m => by
      rw [List.mem_singleton.mp m]
      obtain ⟨x, y, g, _⟩ := q1
      exact ⟨_, g⟩⟩
    walk_at "rd"
    refine fz_new z1 fun l2 F2 H2 e2 z2 f2 => ?_
    have q2 : PoolAt H2 p := by
      obtain ⟨x, y, g, r⟩ := q1
      exact ⟨x, y, e2.s _ _ g, r⟩
    walk_at "rd"
    refine ⟨p, 6, rfl, q2, by decide, by decide, fun x H3 hx b3 q3 => ?_⟩
    have z3 := z2.but List.mem_cons_self b3 (by obtain ⟨x, y, g, _⟩ := q3; exact ⟨_, g⟩)
    obtain ⟨v, hv, hm⟩ := at_in6 (xs := [V.str (Str.ofString "thing"), .str (Str.ofString "word"), .str (Str.ofString "sign"), .str (Str.ofString "first"), .str (Str.ofString "pair"), .str (Str.ofString "longest")]) hx rfl
    obtain ⟨wd6, rfl, hwd⟩ : ∃ z, v = .str z ∧ nameOk z = true := by
      simp only [List.mem_cons, List.not_mem_nil, or_false] at hm
      rcases hm with rfl | rfl | rfl | rfl | rfl | rfl
      all_goals exact ⟨_, rfl, by decide +kernel⟩
    walk_at "rd"
    refine ⟨p, 4, rfl, q3, by decide, by decide, fun y H4 hy b4 q4 => ?_⟩
    have z4 := z3.but List.mem_cons_self b4 (by obtain ⟨x, y, g, _⟩ := q4; exact ⟨_, g⟩)
    have cp4 := cp.up (e2.f.trans z4.s)
    have hc4 := z4.s _ _ (e2.f _ _ hc)
    have sH4 : Same H H4 := e2.f.trans z4.s
    clear b3 b4 z3 z2 e2 f2 z1 q1 q2 q3 s1
    have stay : Q (.ref c) H4 := q c t ws bo H4 ok sH4 ⟨TT, l, vb, a1, a2, a3, xs, ys, hc4, cp4⟩
    have hl4 := cp4.l
    have hyl : ys.length = ws.length := by rw [cp.d.length, len_wsD]
    have wl2 := ok.w.l2
    walk_at "rd"
    refine r_ite (fun h1 => ?_) (fun h1 => ?_)
    · walk_at "rd"
      exact stay
    walk_at "rd"
    refine lcW (walk_list (xs := ys)) (fun i acc _ => acc = ((ws.take i).map fun w => w.1).map V.str) rfl (fun _ e => sqL (e _ _ hl4)) (fun _ _ => rfl) ?_ ?_
    · rintro i x acc Dl G1 G2 hi hD g1 g2 hl2 rfl y
      obtain ⟨rfl, hx⟩ := y
      have hi2 : i < ws.length := by omega
      obtain rfl : ys[i] = x := Option.some.inj ((List.getElem?_eq_getElem hi).symm.trans hx)
      have gi := (cp4.d.up g1).get i hi (by rw [len_wsD]; exact hi2)
      have e0 : (wsD ws)[i]'(by rw [len_wsD]; exact hi2) = wantD ws[i] := List.getElem_map wantD
      rw [e0] at gi
      obtain ⟨Tw, ex, hTw⟩ := want_tup gi
      rw [ex]
      have tk : ws.take (i + 1) = ws.take i ++ [ws[i]] := (List.take_append_getElem hi2).symm
      have c1 : atI [V.str ws[i].1, V.int (ws[i].2 : Nat)] 0 = some (.str ws[i].1) := rfl
      walk_at "rd"
      refine lc_put (by omega) hD g1 g2 hl2 fun H5 _ _ => ?_
      rw [tk, List.map_append, List.map_append]
      rfl
    rintro acc Dl H5 hD s5 f5 rfl
    rw [hyl, List.take_length] at f5
    have hfl := flat_strs (ws.map fun w => w.1)
    walk_at "rd"
    rw [inV_strs]
    refine r_ite (fun h2 => ?_) (fun h2 => ?_)
    · walk_at "rd"
      exact q c t ws bo H5 ok (sH4.trans s5) ⟨TT, l, vb, a1, a2, a3, xs, ys, s5 _ _ hc4, cp4.up s5⟩
    have sH5 := sH4.trans s5
    have cp5 := cp4.up s5
    have hl5 := cp5.l
    have n5 : H5 p ≠ none := by
      obtain ⟨x, y, g, _⟩ := q4
      rw [s5 _ _ g]
      simp
    obtain ⟨w0, ws', ew⟩ : ∃ w0 ws', ws = w0 :: ws' := by
      have := ok.w.l1
      cases e : ws with
      | nil => rw [e] at this; exact absurd this (by decide)
      | cons a b => exact ⟨a, b, rfl⟩
    have dd := cp5.d
    rw [ew] at dd
    obtain ⟨v0, ys', rfl, d0, dd'⟩ := DqAll.cons_inv (show DqAll H5 ys (wantD w0 :: wsD ws') from dd)
    obtain ⟨Tw, rfl, hTw⟩ := want_tup d0
    have c0 : atI (V.ref Tw :: ys') 0 = some (.ref Tw) := atI_nat (j := 0) rfl
    have c1 : atI [V.str w0.1, V.int (w0.2 : Nat)] 1 = some (.int (w0.2 : Nat)) := rfl
    have hcut : cutV (V.ref Tw :: ys') (some 1) none = ys' := cut_from _ 1
    have hyl' : ys'.length ≤ 20 := by
      rw [List.length_cons] at hyl
      omega
    clear stay hl4 s5 f5 hD cp4 hc4 sH4 z4 dd
    walk_at "rd"
    intro T6 H6 n6 s6 f6
    walk_at "rd"
    intro l7 H7 n7 s7 f7
    walk_at "rd"
    intro l8 H8 n8 s8 f8
    rw [hcut] at f8
    walk_at "rd"
    intro l9 H9 n9 s9 f9
    walk_at "rd"
    intro c10 H10 n10 s10 f10
    have sA := s6.trans (s7.trans (s8.trans (s9.trans s10)))
    refine q c10 t ((wd6, w0.2) :: ws') bo H10 ⟨ok.t, wsok_called ok.w ew hwd h2, fun bs e => ⟨by have := (ok.b bs e).1; rw [ew] at this; exact this, (ok.b bs e).2⟩⟩ (sH5.trans sA) ⟨TT, l9, vb, a1, a2, a3, xs, .ref T6 :: ys', f10, cp5.t.up sA, s10 _ _ f9, ?_, cp5.b.elim .inl fun ⟨o, bs, e1, e2, e3⟩ => .inr ⟨o, bs, e1, e2, sA _ _ e3⟩⟩
    have nl : wd6.length ≤ 1000000 := by
      have := nameOk_len hwd
      omega
    exact .cons (.tup (s10 _ _ (s9 _ _ (s8 _ _ (s7 _ _ f6)))) (.cons (.str _ nl) (.cons (.int _) .nil)) (by simp)) (dd'.up sA)
end
end My

namespace My
open PySem PySem.Spec PyProof.Rows L2 Z M SX TL
section
variable {P : Program} {w : World} {K : PySem.W.Frag} {mg : Str → Option Value} {base : Heap}
/-! ### another case -/
def bkM : V → List Addr
  | .ref o => [o]
  | _ => []
theorem tgok_set {t : Tg} (h : TgOk t) {i : Nat} (hi : i < t.sg.length) {s : Sg} (hs : SgOk s) (hc : s.c = t.sg[i].c) : TgOk { t with sg := t.sg.set i s } := by
  have em : (t.sg.set i s).map Sg.c = t.sg.map Sg.c := by
    rw [List.map_set, hc, ← List.getElem_map (f := Sg.c) (h := by rw [List.length_map]; exact hi), List.set_getElem_self]
  have el : lettersT { t with sg := t.sg.set i s } = lettersT t := by
    show (t.sg.set i s).map (fun s => S [s.c]) = t.sg.map fun s => S [s.c]
    have : ∀ l : List Sg, l.map (fun s => S [s.c]) = (l.map Sg.c).map fun c => S [c] := fun l => by rw [List.map_map]; rfl
    rw [this, this, em]
  have hl : (t.sg.set i s).length = t.sg.length := List.length_set
  refine ⟨by rw [hl]; exact h.n1, by rw [hl]; exact h.n2, fun x hx => ?_, by rw [em]; exact h.nd, by rw [el]; exact h.f1, h.f2, by rw [el]; exact h.p1, h.p2, h.l1, h.l2⟩
  rcases List.mem_or_eq_of_mem_set hx with hx | rfl
  · exact h.sg _ hx
  · exact hs
theorem wsok_set {ws : List (Str × Nat)} (h : WsOk ws) {i : Nat} (hi : i < ws.length) {n : Nat} (hn : n ≤ 1000000000) : WsOk (ws.set i (ws[i].1, n)) := by
  have em : (ws.set i (ws[i].1, n)).map (·.1) = ws.map (·.1) := by
    rw [List.map_set, ← List.getElem_map (f := fun w : Str × Nat => w.1) (h := by rw [List.length_map]; exact hi), List.set_getElem_self]
  have hl : (ws.set i (ws[i].1, n)).length = ws.length := List.length_set
  refine ⟨by rw [hl]; exact h.l1, by rw [hl]; exact h.l2, by rw [em]; exact h.nd, fun x hx => ?_, fun x hx => ?_⟩
  · rcases List.mem_or_eq_of_mem_set hx with hx | rfl
    · exact h.nm _ hx
    · show nameOk ws[i].1 = true
      exact h.nm _ (List.getElem_mem hi)
  · rcases List.mem_or_eq_of_mem_set hx with hx | rfl
    · exact h.ct _ hx
    · exact hn
theorem dqs_set {F : Hp} : ∀ {xs : List V} {ds : List PyData} (i : Nat) {v : V} {d : PyData}, DqAll F xs ds → Dq F v d → DqAll F (xs.set i v) (ds.set i d)
  | _, _, _, _, _, .nil, _ => .nil
  | _, _, 0, _, _, .cons _ r, h => .cons h r
  | _, _, i + 1, _, _, .cons g r, h => .cons g (dqs_set i r h)
theorem delBut {H G G2 : Hp} {p a : Addr} (s : Same (L2.del H p) (L2.del G p)) (n : L2.del H p a = none) (b : Z.But a G G2) : Same (L2.del H p) (L2.del G2 p) := fun c u e => by
  have e2 := s _ _ e
  have hp : c ≠ p := fun q => by
    rw [q, del_same] at e
    cases e
  rw [del_ne hp] at e2 ⊢
  exact b c u (ne_of_none e n) e2
theorem ixN_nat {n i : Nat} (h : i < n) : ixN n ((i : Nat) : Int) = some i := by
  unfold ixN
  rw [if_pos (by omega), if_pos (by omega)]
  rfl
theorem er_map {α β : Type} (f : α → β) : ∀ (l : List α) (i : Nat), (l.eraseIdx i).map f = (l.map f).eraseIdx i
  | [], _ => rfl
  | _ :: _, 0 => rfl
  | a :: l, i + 1 => by
    show f a :: (l.eraseIdx i).map f = f a :: (l.map f).eraseIdx i
    rw [er_map f l i]
theorem dqs_erase {F : Hp} : ∀ {xs : List V} {ds : List PyData} (i : Nat), DqAll F xs ds → DqAll F (xs.eraseIdx i) (ds.eraseIdx i)
  | _, _, _, .nil => .nil
  | _, _, 0, .cons _ r => r
  | _, _, i + 1, .cons g r => .cons g (dqs_erase i r)
/-- between the changes -/
structure Ot2 (H F0 : Hp) (p l : Addr) (vb : V) (G : Hp) (ws : List (Str × Nat)) (bo : Option (List Str)) (ys : List V) (F : Hp) : Prop where
  z : Fz (p :: l :: bkM vb) F G
  f : Same F0 F
  pa : PoolAt G p
  s : Same (L2.del H p) (L2.del G p)
  x4 : G l = some (.lst ys)
  q4 : DqAll F ys (wsD ws)
  b : (bo = none ∧ vb = .non) ∨ ∃ o bs, bo = some bs ∧ vb = .ref o ∧ G o = some (.lst (bs.map V.str))
structure Ot2N (H : Hp) (p l : Addr) (vb : V) : Prop where
  pl : l ≠ p
  o : ∀ o, vb = .ref o → o ≠ p ∧ o ≠ l
  hl : L2.del H p l = none
  ho : ∀ o, vb = .ref o → L2.del H p o = none
section
variable {H F0 G G2 F : Hp} {p l : Addr} {vb : V} {ws : List (Str × Nat)} {bo : Option (List Str)} {ys : List V}
theorem Ot2.pool (h : Ot2 H F0 p l vb G ws bo ys F) (k : Ot2N H p l vb) (o : Po p G G2) : Ot2 H F0 p l vb G2 ws bo ys F := by
  have get : ∀ {a : Addr} {u : HO}, a ≠ p → G a = some u → G2 a = some u := fun ne e => del_sub _ _ (o.s _ _ (delG e ne))
  refine ⟨⟨fun a u e => get (h.z.ne e List.mem_cons_self) (h.z.get e), h.z.n, fun a ma => ?_⟩, h.f, o.p, h.s.trans o.s, get k.pl h.x4, h.q4, h.b.elim .inl fun ⟨oo, bs, e1, e2, e3⟩ => .inr ⟨oo, bs, e1, e2, get (k.o oo e2).1 e3⟩⟩
  by_cases e : a = p
  · subst e
    obtain ⟨x, y, q, _⟩ := o.p
    exact ⟨_, q⟩
  · obtain ⟨u, q⟩ := h.z.v a ma
    exact ⟨u, get e q⟩
theorem Ot2.more (h : Ot2 H F0 p l vb G ws bo ys F) {F2 : Hp} (e : Ext (p :: l :: bkM vb) F G F2 G2) : Ot2 H F0 p l vb G2 ws bo ys F2 := by
  have pa2 : PoolAt G2 p := by
    obtain ⟨x, y, q, r⟩ := h.pa
    exact ⟨x, y, e.s _ _ q, r⟩
  exact ⟨e.z, h.f.trans e.f, pa2, h.s.trans (delS e.s), e.s _ _ h.x4, h.q4.up e.f, h.b.elim .inl fun ⟨oo, bs, e1, e2, e3⟩ => .inr ⟨oo, bs, e1, e2, e.s _ _ e3⟩⟩
theorem Ot2.pool_but (h : Ot2 H F0 p l vb G ws bo ys F) {a : Addr} (ne : a ≠ p) (b : Z.But a G G2) : PoolAt G2 p := by
  obtain ⟨x, y, q, r⟩ := h.pa
  exact ⟨x, y, b _ _ (Ne.symm ne) q, r⟩
theorem Ot2.chgW (h : Ot2 H F0 p l vb G ws bo ys F) (k : Ot2N H p l vb) {ws' : List (Str × Nat)} {ys' : List V} (d : DqAll F ys' (wsD ws')) (b : Z.But l G G2) (g : G2 l = some (.lst ys')) : Ot2 H F0 p l vb G2 ws' bo ys' F :=
  ⟨h.z.but (by simp) b ⟨_, g⟩, h.f, h.pool_but k.pl b, delBut h.s k.hl b, g, d, h.b.elim .inl fun ⟨oo, bs, e1, e2, e3⟩ => .inr ⟨oo, bs, e1, e2, b _ _ (k.o oo e2).2 e3⟩⟩
theorem Ot2.chgB {o : Addr} {bs : List Str} (h : Ot2 H F0 p l (.ref o) G ws (some bs) ys F) (k : Ot2N H p l (.ref o)) {bs' : List Str} (b : Z.But o G G2) (g : G2 o = some (.lst (bs'.map V.str))) : Ot2 H F0 p l (.ref o) G2 ws (some bs') ys F :=
  ⟨h.z.but (by simp [bkM]) b ⟨_, g⟩, h.f, h.pool_but (k.o o rfl).1 b, delBut h.s (k.ho o rfl) b, b _ _ (Ne.symm (k.o o rfl).2) h.x4, h.q4, .inr ⟨o, _, rfl, rfl, g⟩⟩
theorem Ot2.bk {o : Addr} {bs : List Str} (h : Ot2 H F0 p l (.ref o) G ws (some bs) ys F) : G o = some (.lst (bs.map V.str)) := by
  rcases h.b with ⟨z, _⟩ | ⟨o', bs', e1, e2, e3⟩
  · cases z
  · cases e1
    cases e2
    exact e3
end
def sp_other (K : PySem.W.Frag) : Sp := fun vs H Q _ => ∃ p c t ws bo, vs = [.ref p, .ref c] ∧ PoolAt H p ∧ CsAt (L2.del H p) c t ws bo ∧ CsOk t ws bo ∧ ∀ c' t' ws' bo' H', CsOk t' ws' bo' → Po p H H' → CsAt (L2.del H' p) c' t' ws' bo' → Q (.ref c') H'
theorem wsok_erase {ws : List (Str × Nat)} (h : WsOk ws) {i : Nat} (hi : i < ws.length) (h1 : 1 < ws.length) : WsOk (ws.eraseIdx i) := by
  have hl : (ws.eraseIdx i).length = ws.length - 1 := List.length_eraseIdx_of_lt hi
  refine ⟨by rw [hl]; omega, by rw [hl]; have := h.l2; omega, ?_, fun w hw => h.nm w (List.mem_of_mem_eraseIdx hw), fun w hw => h.ct w (List.mem_of_mem_eraseIdx hw)⟩
  exact List.Sublist.nodup ((List.eraseIdx_sublist ws i).map _) h.nd
theorem wsok_add {ws : List (Str × Nat)} (h : WsOk ws) {z : Str} {n : Nat} (hz : nameOk z = true) (hn : n ≤ 1000000000) (hm : z ∉ ws.map (·.1)) (hl : ws.length < 20) : WsOk (ws ++ [(z, n)]) := by
  refine ⟨by rw [List.length_append]; simp, by rw [List.length_append]; show ws.length + 1 ≤ 20; omega, ?_, fun w hw => ?_, fun w hw => ?_⟩
  · rw [List.map_append]
    refine List.nodup_append.mpr ⟨h.nd, by simp, fun a ha b hb => ?_⟩
    rw [List.map_cons, List.map_nil, List.mem_singleton] at hb
    rw [hb]
    intro e
    rw [e] at ha
    exact hm ha
  · rcases List.mem_append.mp hw with hw | hw
    · exact h.nm w hw
    · rw [List.mem_singleton.mp hw]
      exact hz
  · rcases List.mem_append.mp hw with hw | hw
    · exact h.ct w hw
    · rw [List.mem_singleton.mp hw]
      exact hn
def OtM2 (H F0 : Hp) (p c T l : Addr) (vb : V) (t : Tg) (way : Int) : L2.St → Hp → Prop := fun σ G => ∃ ws bo ys F, ∃ z6 z7 z8 : Option V, Ot2 H F0 p l vb G ws bo ys F ∧ CsOk t ws bo ∧ σ = [some (.ref p), some (.ref c), some (.ref T), some (.ref l), some vb, some (.int way), z6, z7, z8, none]
theorem ok_law_other (T : Txt K mg) : Z.C0 P w K mg base 3 "_law_other" (sp_other K) := by
  refine T.d_law_other.c0 sc_law_other (fun vs H Q E h => ?_) (Z.bd0 fun _ _ _ _ _ _ us hl => match us, hl with | [_, _], _ => rfl) (fun f cdv A outer s H vs Q E hr h => ⟨_, (pss_cons (ps_asg (pe_c0 (ok_law_copy T) hr (by decide) rfl (pa_cons (pv 1) pa_nil)) (k_tup (n := 3) K rfl (pgs_cons (pg_name (i := 2) sc_law_other.nd rfl (Or.inl rfl)) (pgs_cons (pg_name (i := 3) sc_law_other.nd rfl (Or.inr rfl)) (pgs_cons (pg_name (i := 4) sc_law_other.nd rfl (Or.inl rfl)) pgs_nil)))))
  (pss_cons (ps_set (i := 5) sc_law_other.nd rfl (Or.inl rfl) (pe_c0 (ok_law_take T) hr (by decide) rfl (pa_cons (pv 0) (pa_cons pe_int pa_nil))))
  (Evl.pss_cut (ps_if (PW.pt (pw_and (pt_cmpR (k_eqP K hr.units) (pv 5) pe_int (nomark _)) (pw_and1 (pt_cmpR op_gtI (pe_callB (k_len K) rfl T.b_len (by decide +kernel) (pa_cons (pv 3) pa_nil)) pe_int (nomark _)))))
  (pss_cons (ps_set (i := 6) sc_law_other.nd rfl (Or.inl rfl) (pe_c0 (ok_law_take T) hr (by decide) rfl (pa_cons (pv 0) (pa_cons (pe_callB (k_len K) rfl T.b_len (by decide +kernel) (pa_cons (pv 3) pa_nil)) pa_nil))))
  (pss_cons (ps_expr (k_bm K PySem.F.plainAttrs_list PySem.F.slot_list_pop PySem.F.type_list_pop mt_popAt (pv 3) (pa_cons (pv 6) pa_nil)))
  (pss_one (ps_if (pt_cmpR op_isNotP (pv 4) pe_non (nomark _))
  (pss_one (ps_expr (k_bm K PySem.F.plainAttrs_list PySem.F.slot_list_pop PySem.F.type_list_pop mt_popAt (pv 4) (pa_cons (pv 6) pa_nil)))) pss_nil)))) pss_nil)
  (Evl.pss_cut (ps_if (PW.pt (pw_and (pt_cmpR (k_eqP K hr.units) (pv 5) pe_int (nomark _)) (pw_and1 (pt_cmpR op_ltI (pe_callB (k_len K) rfl T.b_len (by decide +kernel) (pa_cons (pv 3) pa_nil)) pe_int (nomark _)))))
  (pss_cons (ps_setLc (i := 8) (own := [("_law_name_here", 7)]) rfl sc_law_other.nd rfl rfl (sw_true rfl rfl rfl (by decide +kernel)) (k_iL K (pe_c0 (ok_law_texts T) hr (by decide) rfl (pa_cons (pv 0) (pa_cons pe_int pa_nil)))) (blkOk_by (N := ["_law_pool_here", "_law_case_here", "_law_tongue_here", "_law_wants_here", "_law_book", "_law_way", "_law_at", "_law_name_here", "_law_fresh", "_law_want"]) (sc := defScope s_law_other) (by decide +kernel)) (fun _ _ _ _ _ => (pg_name (i := 7) sc_law_other.nd rfl (Or.inl rfl))) (fun _ _ _ _ _ => (pts_one (pt_cmpR (k_notInP K) (pv 7) (pe_lc (own := [("_law_want", 9)]) rfl sc_law_other.nd (k_iL K (pv 3)) (blkOk_by (N := ["_law_pool_here", "_law_case_here", "_law_tongue_here", "_law_wants_here", "_law_book", "_law_way", "_law_at", "_law_name_here", "_law_fresh", "_law_want"]) (sc := ({ kind := .function, names := [(".0", .local), ("_law_name_here", .local), ("_law_wants_here", .cell)], isGenerator := false, isCoroutine := false } : Scope)) (by decide +kernel)) (fun _ _ _ _ _ => (pg_name (i := 9) sc_law_other.nd rfl (Or.inl rfl))) (fun _ _ _ _ _ => pts_nil) (fun _ _ _ _ _ => (pe_ix (k_ix K) (pv 9) pe_int (fun _ _ => rfl)))) (by rfl)))) (fun _ _ _ _ _ => (pv 7)))
  (pss_one (ps_for PassesOwn.never rfl (k_iL K (pv 8)) (pg_name (i := 7) sc_law_other.nd rfl (Or.inl rfl))
  (pss_cons (ps_expr (k_bm K PySem.F.plainAttrs_list PySem.F.slot_list_append PySem.F.type_list_append mt_append (pv 3) (pa_cons (pe_tup (pa_cons (pv 7) (pa_cons (pe_c0 (ok_law_take T) hr (by decide) rfl (pa_cons (pv 0) (pa_cons (pe_op (k_addP K) (pe_op op_powI pe_int pe_int) pe_int) pa_nil))) pa_nil))) pa_nil)))
  (pss_one (ps_if (pt_cmpR op_isNotP (pv 4) pe_non (nomark _))
  (pss_one (ps_expr (k_bm K PySem.F.plainAttrs_list PySem.F.slot_list_append PySem.F.type_list_append mt_append (pv 4) (pa_cons (pe_ix (k_ix K) (pe_c0 (ok_law_texts T) hr (by decide) rfl (pa_cons (pv 0) (pa_cons pe_int pa_nil))) pe_int (fun _ _ => rfl)) pa_nil)))) pss_nil)))))) pss_nil)
  (Evl.pss_cut (ps_if (PW.pt (pw_and (pt_cmpR (k_eqP K hr.units) (pv 5) pe_int (nomark _)) (pw_and1 (pt_cmpR op_isNotP (pv 4) pe_non (nomark _)))))
  (pss_one (ps_asg (pe_ix (k_ix K) (pe_c0 (ok_law_texts T) hr (by decide) rfl (pa_cons (pv 0) (pa_cons pe_int pa_nil))) pe_int (fun _ _ => rfl)) (pg_sub (pv 4) (pe_c0 (ok_law_take T) hr (by decide) rfl (pa_cons (pv 0) (pa_cons (pe_callB (k_len K) rfl T.b_len (by decide +kernel) (pa_cons (pv 4) pa_nil)) pa_nil))) set_list))) pss_nil)
  (pss_one (ps_ret (pe_tup (pa_cons (pv 2) (pa_cons (pv 3) (pa_cons (pv 4) pa_nil))))))))))), ?_⟩)
  · obtain ⟨p, c, t, ws, bo, rfl, _⟩ := h
    rfl
  · obtain ⟨p, c, t, ws, bo, rfl, hp, ⟨TT, l0, vb0, b1, b2, b3, xs, ys, hc, cp⟩, ok, q⟩ := h
    rw [st_law_other]
    walk_at "st"
    walk_at "rd"
    refine ⟨c, TT, l0, vb0, t, ws, bo, b1, b2, b3, xs, ys, rfl, del_sub _ _ hc, cp.up del_sub, fun c' T' l vb a1 a2 a3 H1 s1 f1 cp1 cn => ?_⟩
    have hT := cp1.t.ht
    have delN : ∀ {a : Addr}, H a = none → L2.del H p a = none := fun e => by
      unfold L2.del
      split
      · rfl
      · exact e
    have k : Ot2N H p l vb := ⟨pool_ne hp cn.nl, fun o e => ⟨pool_ne hp (cn.o o e).1, (cn.o o e).2.2.2.2⟩, delN cn.nl, fun o e => delN (cn.o o e).1⟩
    have hM : ∀ {a : Addr}, a ∈ p :: l :: bkM vb → a = p ∨ a = l ∨ vb = .ref a := fun {a} m => by
      simp only [List.mem_cons] at m
      rcases m with rfl | rfl | m
      · exact .inl rfl
      · exact .inr (.inl rfl)
      · cases vb with
        | ref o => exact .inr (.inr (by rw [List.mem_singleton.mp m]))
        | _ => exact absurd m List.not_mem_nil
    have nM : ∀ {a : Addr} {u : HO}, H1 a = some u → a ≠ p → a ≠ l → (∀ o, vb = .ref o → o ≠ a) → hideL H1 (p :: l :: bkM vb) a = some u := fun h1 h2 h3 h4 => hide_get h1 fun m => by
      rcases hM m with rfl | rfl | e
      · exact h2 rfl
      · exact h3 rfl
      · exact h4 _ e rfl
    have sF : Same (L2.del H p) (hideL H1 (p :: l :: bkM vb)) := hide_same (del_sub.trans s1) fun a m => by
      rcases hM m with rfl | rfl | e
      · exact del_same
      · exact k.hl
      · exact k.ho _ e
    have I0 : Ot2 H (hideL H1 (p :: l :: bkM vb)) p l vb H1 ws bo ys (hideL H1 (p :: l :: bkM vb)) := by
      refine ⟨Fz.hide fun a m => ?_, Same.refl _, ?_, delS s1, cp1.l, cp.d.up sF, cp1.b⟩
      · rcases hM m with rfl | rfl | e
        · obtain ⟨x, y, q, _⟩ := hp
          exact ⟨_, s1 _ _ q⟩
        · exact ⟨_, cp1.l⟩
        · rcases cp1.b with ⟨_, z⟩ | ⟨o, bs, _, z, g⟩
          · rw [e] at z; cases z
          · rw [e] at z
            cases z
            exact ⟨_, g⟩
      · obtain ⟨x, y, q, r⟩ := hp
        exact ⟨x, y, s1 _ _ q, r⟩
    have tgF : TgAt (hideL H1 (p :: l :: bkM vb)) (.ref T') t T' a1 a2 a3 xs := by
      have pn : ∀ {a : Addr}, H a = none → a ≠ p := fun h => pool_ne hp h
      have tu : ∀ {o : Addr} {bs : List Str}, H1 o = some (.lst (bs.map V.str)) → o ≠ T' := fun g e => by
        rw [e, hT] at g
        cases g
      refine ⟨rfl, nM hT (fun e => ?_) (fun e => ?_) (fun o e => ?_), nM cp1.t.s (pn cn.n1) cn.d.2.2.1 (fun o e => (cn.o o e).2.1), cp.t.q.up sF, nM cp1.t.f (pn cn.n2) cn.d.2.2.2.2.1 (fun o e => (cn.o o e).2.2.1), nM cp1.t.p (pn cn.n3) cn.d.2.2.2.2.2 (fun o e => (cn.o o e).2.2.2.1), cp.t.k1, cp.t.k2, cp.t.k3, cp.t.k4⟩
      · obtain ⟨x, y, q, _⟩ := hp
        have q2 := s1 _ _ q
        rw [e] at hT
        rw [hT] at q2
        cases q2
      · have := cp1.l
        rw [e] at hT
        rw [hT] at this
        cases this
      · rcases cp1.b with ⟨_, z⟩ | ⟨o', bs, _, z, g⟩
        · rw [e] at z; cases z
        · rw [e] at z
          cases z
          exact tu g
    have c1 : SqT K H1 c' [.ref T', .ref l, vb] := sqT f1
    revert I0 tgF
    generalize hideL H1 (p :: l :: bkM vb) = F1
    intro I0 tgF
    clear cp1 cn nM sF hM f1
    walk_at "rd"
    refine ⟨p, 3, rfl, I0.pa, by decide, by decide, fun way G1 hway b1 p1 => ?_⟩
    have I1 := I0.pool k (Po.but b1 p1)
    have J : OtM2 H F1 p c T' l vb t way [some (.ref p), some (.ref c), some (.ref T'), some (.ref l), some vb, some (.int way), none, none, none, none] G1 := ⟨ws, bo, ys, F1, none, none, none, I1, ok, rfl⟩
    clear I0 I1 c1 b1 p1 s1 hT
    walk_at "rd"
    -- way 0
    refine r_cut (OtM2 H F1 p c T' l vb t way) ?_ ?_
    · obtain ⟨ws, bo, ys, F, z6, z7, z8, I, ok, es⟩ := J
      have hyl : ys.length = ws.length := by rw [I.q4.length, len_wsD]
      have x4 := I.x4
      have stay : OtM2 H F1 p c T' l vb t way [some (.ref p), some (.ref c), some (.ref T'), some (.ref l), some vb, some (.int way), none, none, none, none] G1 := ⟨ws, bo, ys, F, z6, z7, z8, I, ok, es⟩
      have wl2 := ok.w.l2
      walk_at "rd"
      refine r_ite (fun hw => ?_) (fun hw => ?_)
      · walk_at "rd"
        rw [hyl]
        refine r_ite (fun h1 => ?_) (fun h1 => ?_)
        · walk_at "rd"
          rw [hyl]
          refine ⟨p, ws.length, rfl, I.pa, by omega, by omega, fun at_ G2 hat b2 p2 => ?_⟩
          have I2 := I.pool k (Po.but b2 p2)
          have y4 := I2.x4
          walk_at "rd"
          refine r_popAt y4 (by omega) (List.getElem?_eq_getElem (by omega)) (fun G3 b3 f3 => ?_)
          have d3 : DqAll F (ys.eraseIdx at_) (wsD (ws.eraseIdx at_)) := by
            unfold wsD
            rw [er_map]
            exact dqs_erase at_ I2.q4
          have I3 := I2.chgW k d3 b3 f3
          have hb := I3.b
          walk_at "rd"
          rcases hb with ⟨rfl, rfl⟩ | ⟨o, bs, rfl, rfl, ho⟩
          · walk_at "rd"
            exact ⟨_, none, _, F, _, _, _, I3, ⟨ok.t, wsok_erase ok.w hat (by omega), fun bs e => by cases e⟩, rfl⟩
          · have hbl := (ok.b bs rfl).1
            walk_at "rd"
            refine r_popAt ho (by omega) (List.getElem?_eq_getElem (by rw [List.length_map]; omega)) (fun G4 b4 f4 => ?_)
            rw [← er_map] at f4
            have I4 := I3.chgB k b4 f4
            walk_at "rd"
            exact ⟨_, _, _, F, _, _, _, I4, ⟨ok.t, wsok_erase ok.w hat (by omega), fun bs' e => by
              cases e
              refine ⟨by rw [List.length_eraseIdx_of_lt (by omega), List.length_eraseIdx_of_lt hat, hbl], fun z hz => (ok.b bs rfl).2 z (List.mem_of_mem_eraseIdx hz)⟩⟩, rfl⟩
        · walk_at "rd"
          exact stay
      · walk_at "rd"
        exact stay
    rintro σ G2 ⟨ws, bo, ys, F, z6, z7, z8, I, ok, rfl⟩
    clear J
    walk_at "rd"
    -- way 1
    refine r_cut (OtM2 H F1 p c T' l vb t way) ?_ ?_
    · have hyl : ys.length = ws.length := by rw [I.q4.length, len_wsD]
      have x4 := I.x4
      have stay : OtM2 H F1 p c T' l vb t way [some (.ref p), some (.ref c), some (.ref T'), some (.ref l), some vb, some (.int way), z6, z7, z8, none] G2 := ⟨ws, bo, ys, F, z6, z7, z8, I, ok, rfl⟩
      have wl2 := ok.w.l2
      walk_at "rd"
      refine r_ite (fun hw => ?_) (fun hw => ?_)
      · walk_at "rd"
        rw [hyl]
        refine r_ite (fun h1 => ?_) (fun h1 => ?_)
        · walk_at "rd"
          refine ⟨p, 1, rfl, I.pa, by decide, by decide, fun zs lb G5 hzs hzl o5 g5 => ?_⟩
          obtain ⟨zz, rfl⟩ : ∃ zz, zs = [zz] := by
            match zs, hzl with
            | [zz], _ => exact ⟨zz, rfl⟩
          have hzz := hzs zz List.mem_cons_self
          have I5 := I.pool k o5
          have g5' : G5 lb = some (.lst ([zz].map V.str)) := del_sub _ _ g5
          have y4 := I5.x4
          walk_at "rd"
          refine lcWw (σ0 := [some (.ref p), some (.ref c), some (.ref T'), some (.ref l), some vb, some (.int way), z6, none, z8, none]) rfl rfl ?_
          refine lcW (walk_list (xs := [zz].map V.str)) (fun i acc _ => i = 0 ∧ acc = [] ∨ i = 1 ∧ acc = (if zz ∈ ws.map (·.1) then [] else [zz]).map V.str) rfl (fun _ e => sqL (e _ _ g5')) (fun _ _ => .inl ⟨rfl, rfl⟩) ?_ ?_
          · rintro i x acc Dl K1 K2 hi hD e1 e2 hl2 racc ⟨rfl, hx⟩
            have hi0 : i = 0 := by
              simp at hi
              exact hi
            subst hi0
            obtain rfl : V.str zz = x := Option.some.inj hx
            obtain rfl : acc = [] := by
              rcases racc with ⟨_, e⟩ | ⟨e, _⟩
              · exact e
              · cases e
            have y41 := e1 _ _ y4
            walk_at "rd"
            refine lcW (walk_list (xs := ys)) (fun i acc _ => acc = ((ws.take i).map fun w => w.1).map V.str) rfl (fun _ e => sqL (e _ _ y41)) (fun _ _ => rfl) ?_ ?_
            · rintro i x acc Dl2 L1 L2 hi hD2 g1 g2 hl3 rfl y
              obtain ⟨rfl, hx⟩ := y
              have hi2 : i < ws.length := by omega
              obtain rfl : ys[i] = x := Option.some.inj ((List.getElem?_eq_getElem hi).symm.trans hx)
              have gi := ((I5.z.ups I5.q4).up (e1.trans g1)).get i hi (by rw [len_wsD]; exact hi2)
              have e0 : (wsD ws)[i]'(by rw [len_wsD]; exact hi2) = wantD ws[i] := List.getElem_map wantD
              rw [e0] at gi
              obtain ⟨Tw, ex, hTw⟩ := want_tup gi
              rw [ex]
              have tk : ws.take (i + 1) = ws.take i ++ [ws[i]] := (List.take_append_getElem hi2).symm
              have c1 : atI [V.str ws[i].1, V.int (ws[i].2 : Nat)] 0 = some (.str ws[i].1) := rfl
              walk_at "rd"
              refine lc_put (by omega) hD2 g1 g2 hl3 fun H5 _ _ => ?_
              rw [tk, List.map_append, List.map_append]
              rfl
            rintro acc Dl2 L3 hD2 g1 g2 rfl
            rw [hyl, List.take_length] at g2
            have hfl := flat_strs (ws.map fun w => w.1)
            have e2' := g1 _ _ e2
            walk_at "rd"
            rw [inV_strs]
            refine r_nite (fun hm => ?_) (fun hm => ?_)
            · walk_at "rd"
              exact lc_put (by omega) hD (e1.trans g1) e2' hl2 fun H5 _ _ => .inr ⟨rfl, by rw [if_neg hm]; rfl⟩
            · walk_at "rd"
              exact lc_skip (e1.trans g1) e2' hl2 (.inr ⟨rfl, by rw [if_pos hm]; rfl⟩)
          · rintro acc lf K1 hlf e1 f1 racc
            obtain ⟨fr, efr⟩ : ∃ fr, fr = (if zz ∈ ws.map (·.1) then [] else [zz]) := ⟨_, rfl⟩
            obtain rfl : acc = fr.map V.str := by
              rcases racc with ⟨e, _⟩ | ⟨_, e⟩
              · exact absurd e (by simp)
              · rw [efr]
                exact e
            obtain ⟨e6, q6⟩ := I5.z.new hlf e1 f1
            have I6 := I5.more e6
            revert I6 q6
            generalize upd F lf (.lst (fr.map V.str)) = F6
            intro q6 I6
            have h6 := I6.z.get q6
            clear I5 e6 e1 f1 y4 g5' g5 o5 racc hlf
            walk_at "rd"
            refine forW (walk_list (xs := fr.map V.str)) (fun i σ G => ∃ ws2 bo2 ys2 F2, ∃ z6 z7 : Option V, Ot2 H F1 p l vb G ws2 bo2 ys2 F2 ∧ Same F6 F2 ∧ CsOk t ws2 bo2 ∧ (i = 0 → ws2 = ws) ∧ σ = [some (.ref p), some (.ref c), some (.ref T'), some (.ref l), some vb, some (.int way), z6, z7, some (.ref lf), none]) ⟨ws, bo, ys, F6, _, _, I6, Same.refl _, ok, fun _ => rfl, rfl⟩ (fun i σ G _ ⟨_, _, _, _, _, _, J, sJ, _⟩ => sqL (J.z.get (sJ _ _ q6))) ?_ ?_
            · rintro i x σ K2 K3 hi ⟨ws2, bo2, ys2, F2, z6', z7', J, sJ, okJ, hws, rfl⟩ ⟨rfl, hx⟩
              have hnot : zz ∉ ws.map (·.1) := fun hm => by
                rw [efr, if_pos hm] at hi
                exact absurd hi (Nat.not_lt_zero _)
              rw [if_neg hnot] at efr
              subst efr
              have hi0 : i = 0 := by
                simp at hi
                exact hi
              subst hi0
              obtain rfl := hws rfl
              obtain rfl : V.str zz = x := Option.some.inj hx
              have j4 := J.x4
              walk_at "rd"
              refine ⟨p, 1000000001, rfl, J.pa, by decide, by decide, fun n K4 hn b4 p4 => ?_⟩
              have J4 := J.pool k (Po.but b4 p4)
              walk_at "rd"
              intro T5 K5 n5 s5 f5
              obtain ⟨e5, q5⟩ := J4.z.new n5 s5 f5
              have J5 := J4.more e5
              have j45 := J5.x4
              have jl : ys2.length < 16777216 := by
                rw [J.q4.length, len_wsD]
                omega
              have nl : zz.length ≤ 1000000 := by
                have := word_len hzz
                omega
              walk_at "rd"
              intro K6 b6 f6
              have d6 : DqAll (upd F2 T5 (.tup [.str zz, .int (n : Nat)])) (ys2 ++ [.ref T5]) (wsD (ws2 ++ [(zz, n)])) := by
                unfold wsD
                rw [List.map_append]
                exact (J5.q4).app (.cons (.tup q5 (.cons (.str _ nl) (.cons (.int _) .nil)) (by simp)) .nil)
              have J6 := J5.chgW k d6 b6 f6
              have okw := wsok_add okJ.w (word_name hzz) (show n ≤ 1000000000 by omega) hnot (by omega)
              have hb := J6.b
              walk_at "rd"
              rcases hb with ⟨rfl, rfl⟩ | ⟨o, bs, rfl, rfl, ho⟩
              · walk_at "rd"
                exact ⟨_, none, _, _, _, _, J6, sJ.trans e5.f, ⟨okJ.t, okw, fun bs e => by cases e⟩, (fun e => by cases e), rfl⟩
              · walk_at "rd"
                refine ⟨p, 1, rfl, J6.pa, by decide, by decide, fun zs lb K7 hzs hzl o7 g7 => ?_⟩
                obtain ⟨z1, rfl⟩ : ∃ zz, zs = [zz] := by
                  match zs, hzl with
                  | [zz], _ => exact ⟨zz, rfl⟩
                have J7 := J6.pool k o7
                have g7' : K7 lb = some (.lst ([z1].map V.str)) := del_sub _ _ g7
                have az : atI ([z1].map V.str) 0 = some (.str z1) := rfl
                have ho7 := J7.bk
                have hbl := (okJ.b bs rfl).1
                have bl : (bs.map V.str).length < 16777216 := by
                  rw [List.length_map]
                  omega
                walk_at "rd"
                intro K8 b8 f8
                have f8' : K8 o = some (.lst ((bs ++ [z1]).map V.str)) := by
                  rw [f8, List.map_append]
                  rfl
                have J8 := J7.chgB k b8 f8'
                exact ⟨_, _, _, _, _, _, J8, sJ.trans e5.f, ⟨okJ.t, okw, fun bs' e => by
                  cases e
                  refine ⟨by rw [List.length_append, List.length_append, hbl]; rfl, fun z hz => ?_⟩
                  rcases List.mem_append.mp hz with hz | hz
                  · exact (okJ.b bs rfl).2 z hz
                  · rw [List.mem_singleton.mp hz]
                    exact hzs z1 List.mem_cons_self⟩, (fun e => by cases e), rfl⟩
            · rintro σ K2 ⟨ws2, bo2, ys2, F2, z6', z7', J, sJ, okJ, hws, rfl⟩
              exact ⟨ws2, bo2, ys2, F2, _, _, _, J, okJ, rfl⟩
        · walk_at "rd"
          exact stay
      · walk_at "rd"
        exact stay
    rintro σ G3 ⟨ws, bo, ys, F, z6, z7, z8, I, ok, rfl⟩
    -- way 2
    walk_at "rd"
    refine r_cut (OtM2 H F1 p c T' l vb t way) ?_ ?_
    · have stay : OtM2 H F1 p c T' l vb t way [some (.ref p), some (.ref c), some (.ref T'), some (.ref l), some vb, some (.int way), z6, z7, z8, none] G3 := ⟨ws, bo, ys, F, z6, z7, z8, I, ok, rfl⟩
      have hb := I.b
      walk_at "rd"
      refine r_ite (fun hw => ?_) (fun hw => ?_)
      · rcases hb with ⟨rfl, rfl⟩ | ⟨o, bs, rfl, rfl, ho⟩
        · walk_at "rd"
          exact stay
        · have hbl := (ok.b bs rfl).1
          have wl1 := ok.w.l1
          have wl2 := ok.w.l2
          have hbm : (bs.map V.str).length = bs.length := List.length_map _
          walk_at "rd"
          refine ⟨p, 1, rfl, I.pa, by decide, by decide, fun zs lb G5 hzs hzl o5 g5 => ?_⟩
          obtain ⟨zz, rfl⟩ : ∃ zz, zs = [zz] := by
            match zs, hzl with
            | [zz], _ => exact ⟨zz, rfl⟩
          have I5 := I.pool k o5
          have g5' : G5 lb = some (.lst ([zz].map V.str)) := del_sub _ _ g5
          have az : atI ([zz].map V.str) 0 = some (.str zz) := rfl
          have ho5 := I5.bk
          walk_at "rd"
          rw [hbm]
          refine ⟨p, bs.length, rfl, I5.pa, by omega, by omega, fun at_ G6 hat b6 p6 => ?_⟩
          have I6 := I5.pool k (Po.but b6 p6)
          have ho6 := I6.bk
          have hix : ixN (bs.map V.str).length ((at_ : Nat) : Int) = some at_ := ixN_nat (by rw [List.length_map]; omega)
          clear ho5 g5' ho
          walk_at "rd"
          intro G7 b7 f7
          rw [← List.map_set] at f7
          exact ⟨_, _, _, _, _, _, _, I6.chgB k b7 f7, ⟨ok.t, ok.w, fun bs' e => by
            cases e
            refine ⟨by rw [List.length_set]; exact hbl, fun y hy => ?_⟩
            rcases List.mem_or_eq_of_mem_set hy with hy | rfl
            · exact (ok.b bs rfl).2 _ hy
            · exact hzs _ List.mem_cons_self⟩, rfl⟩
      · walk_at "rd"
        exact stay
    rintro σ G4 ⟨ws, bo, ys, F, z6, z7, z8, I, ok, rfl⟩
    walk_at "rd"
    intro c2 G5 n5 s5 f5
    have I5 := I.more (I.z.same s5)
    have fs : Same F (L2.del G5 p) := fun a u g => delG (I5.z.get g) (I5.z.ne g List.mem_cons_self)
    have cpn : c2 ≠ p := pool_ne I.pa n5
    refine q c2 t ws bo G5 ok ⟨I5.s, I5.pa⟩ ⟨T', l, vb, a1, a2, a3, xs, ys, delG f5 cpn, (tgF.up I.f).up fs, delG I5.x4 k.pl, I.q4.up fs, ?_⟩
    exact I5.b.elim .inl fun ⟨oo, bs, e1, e2, e3⟩ => .inr ⟨oo, bs, e1, e2, delG e3 (k.o oo e2).1⟩
end
end My

namespace My
open PySem PySem.Spec PyProof.Rows L2 Z M SX TL
section
variable {P : Program} {w : World} {K : PySem.W.Frag} {mg : Str → Option Value} {base : Heap}
theorem eqv_strs {l : List Str} (h : ∀ z ∈ l, PyData.strOk z = true) : PyData.eqv (.list (l.map PyData.str)) (.list (l.map PyData.str)) = true := by
  rw [PyData.eqv]
  exact SeqAt.eqvAll_refl _ (strs_lay l h).1
def sp_spoilt (K : PySem.W.Frag) : Sp := fun vs H Q _ => ∃ c1 c2 t ws bo T1 l1 vb1 b1 b2 b3 b5 xs1 ys1 F, vs = [.ref c1, .ref c2] ∧ F c1 = some (.tup [.ref T1, .ref l1, vb1]) ∧ F T1 = some (.tup [.ref b1, .ref b2, .ref b3, .int ((t : Tg).lo : Nat)]) ∧
  H b1 = some (.lst xs1) ∧ xs1.length = t.sg.length ∧ H b2 = some (.lst (t.fi.map V.str)) ∧ H b3 = some (.lst (t.pa.map V.str)) ∧ H l1 = some (.lst ys1) ∧ DqAll F ys1 (wsD ws) ∧
  ((bo = none ∧ vb1 = .non) ∨ ∃ bs, bo = some bs ∧ vb1 = .ref b5 ∧ H b5 = some (.lst (bs.map V.str))) ∧ Fz [b1, b2, b3, l1, b5] F H ∧ [b1, b2, b3, l1, b5].Nodup ∧ CsAt F c2 t ws bo ∧ CsOk t ws bo ∧
  ∀ H', (∀ a u, a ∉ [b1, b2, b3, l1, b5] → H a = some u → H' a = some u) → Q (.bl true) H'
theorem ok_law_is_spoilt (T : Txt K mg) : Z.C0 P w K mg base 1 "_law_is_spoilt" (sp_spoilt K) := by
  refine T.d_law_is_spoilt.c0 sc_law_is_spoilt (fun vs H Q E h => ?_) (Z.bd0 fun _ _ _ _ _ _ us hl => match us, hl with | [_, _], _ => rfl) (fun f cdv A outer s H vs Q E hr h => ⟨_, (pss_cons (ps_expr (k_bm K PySem.F.plainAttrs_list PySem.F.slot_list_append PySem.F.type_list_append mt_append (pe_ix (k_ix K) (pe_ix (k_ix K) (pv 0) pe_int (fun _ _ => rfl)) pe_int (fun _ _ => rfl)) (pa_cons pe_non pa_nil)))
  (pss_cons (ps_expr (k_bm K PySem.F.plainAttrs_list PySem.F.slot_list_append PySem.F.type_list_append mt_append (pe_ix (k_ix K) (pe_ix (k_ix K) (pv 0) pe_int (fun _ _ => rfl)) pe_int (fun _ _ => rfl)) (pa_cons pe_str pa_nil)))
  (pss_cons (ps_if (PW.pt (pw_or (pt_cmpR (k_neP K hr.units) (pe_ix (k_ix K) (pe_ix (k_ix K) (pv 0) pe_int (fun _ _ => rfl)) pe_int (fun _ _ => rfl)) (pe_ix (k_ix K) (pe_ix (k_ix K) (pv 1) pe_int (fun _ _ => rfl)) pe_int (fun _ _ => rfl)) (nomark _)) (pw_or1 (pt_cmpR (k_neP K hr.units) (pe_ix (k_ix K) (pv 0) pe_int (fun _ _ => rfl)) (pe_ix (k_ix K) (pv 1) pe_int (fun _ _ => rfl)) (nomark _)))))
  (pss_one (ps_ret pe_bl)) pss_nil)
  (pss_cons (ps_expr (k_bm K PySem.F.plainAttrs_list PySem.F.slot_list_append PySem.F.type_list_append mt_append (pe_ix (k_ix K) (pe_ix (k_ix K) (pv 0) pe_int (fun _ _ => rfl)) pe_int (fun _ _ => rfl)) (pa_cons pe_str pa_nil)))
  (pss_cons (ps_if (PW.pt (pw_or (pt_cmpR (k_neP K hr.units) (pe_ix (k_ix K) (pe_ix (k_ix K) (pv 0) pe_int (fun _ _ => rfl)) pe_int (fun _ _ => rfl)) (pe_op (k_addP K) (pe_ix (k_ix K) (pe_ix (k_ix K) (pv 1) pe_int (fun _ _ => rfl)) pe_int (fun _ _ => rfl)) (pe_lst (pa_cons pe_str pa_nil))) (nomark _)) (pw_or1 (pt_cmpR (k_neP K hr.units) (pe_ix (k_ix K) (pv 0) pe_int (fun _ _ => rfl)) (pe_ix (k_ix K) (pv 1) pe_int (fun _ _ => rfl)) (nomark _)))))
  (pss_one (ps_ret pe_bl)) pss_nil)
  (pss_cons (ps_expr (k_bm0 K PySem.F.plainAttrs_list PySem.F.slot_list_clear PySem.F.type_list_clear mt_clear (pe_ix (k_ix K) (pv 0) pe_int (fun _ _ => rfl))))
  (Evl.pss_cut (ps_if (pt_cmpR op_isNotP (pe_ix (k_ix K) (pv 0) pe_int (fun _ _ => rfl)) pe_non (nomark _))
  (pss_one (ps_expr (k_bm K PySem.F.plainAttrs_list PySem.F.slot_list_append PySem.F.type_list_append mt_append (pe_ix (k_ix K) (pv 0) pe_int (fun _ _ => rfl)) (pa_cons pe_str pa_nil)))) pss_nil)
  (pss_one (ps_ret (pe_cmpR (k_eqP K hr.units) (pe_callB (k_len K) rfl T.b_len (by decide +kernel) (pa_cons (pe_ix (k_ix K) (pe_ix (k_ix K) (pv 0) pe_int (fun _ _ => rfl)) pe_int (fun _ _ => rfl)) pa_nil)) (pe_op (k_addP K) (pe_callB (k_len K) rfl T.b_len (by decide +kernel) (pa_cons (pe_ix (k_ix K) (pe_ix (k_ix K) (pv 1) pe_int (fun _ _ => rfl)) pe_int (fun _ _ => rfl)) pa_nil)) pe_int) (nomark _))))))))))), ?_⟩)
  · obtain ⟨c1, c2, t, ws, bo, T1, l1, vb1, b1, b2, b3, b5, xs1, ys1, F, rfl, _⟩ := h
    rfl
  · obtain ⟨c1, c2, t, ws, bo, T1, l1, vb1, b1, b2, b3, b5, xs1, ys1, F, rfl, hc1, hT1, g1, gl, g2, g3, g4, d4, gb, z, nd, ⟨T2, l2, vb2, a1, a2, a3, xs, ys, hc2, cp⟩, ok, q⟩ := h
    rw [st_law_is_spoilt]
    walk_at "st"
    simp only [List.nodup_cons, List.mem_cons, List.not_mem_nil, or_false, not_or, List.nodup_nil] at nd
    obtain ⟨⟨n12, n13, n14, n15⟩, ⟨n23, n24, n25⟩, ⟨n34, n35⟩, n45, _⟩ := nd
    replace n12 : b1 ≠ b2 := n12
    replace n13 : b1 ≠ b3 := n13
    replace n14 : b1 ≠ l1 := n14
    replace n15 : b1 ≠ b5 := n15
    replace n23 : b2 ≠ b3 := n23
    replace n24 : b2 ≠ l1 := n24
    replace n25 : b2 ≠ b5 := n25
    replace n34 : b3 ≠ l1 := n34
    replace n35 : b3 ≠ b5 := n35
    replace n45 : l1 ≠ b5 := n45
    have tl2 := ok.t.n2
    have wl2 := ok.w.l2
    have hyl : ys1.length = ws.length := by rw [d4.length, len_wsD]
    have hxl : xs.length = t.sg.length := by rw [cp.t.q.length, List.length_map]
    have x1l : xs1.length ≤ 6 := by omega
    have fk := cp.t.k1
    have pk := cp.t.k2
    have lay := ok.t.lay
    have wlay := wsD_lay ws ok.w.nm
    have hT2 := cp.t.ht
    have i0 : atI [V.ref T1, V.ref l1, vb1] 0 = some (.ref T1) := rfl
    have i1 : atI [V.ref T1, V.ref l1, vb1] 1 = some (.ref l1) := rfl
    have i2 : atI [V.ref T1, V.ref l1, vb1] 2 = some vb1 := rfl
    have j0 : atI [V.ref b1, V.ref b2, V.ref b3, V.int (t.lo : Nat)] 0 = some (.ref b1) := rfl
    have j1 : atI [V.ref b1, V.ref b2, V.ref b3, V.int (t.lo : Nat)] 1 = some (.ref b2) := rfl
    have j2 : atI [V.ref b1, V.ref b2, V.ref b3, V.int (t.lo : Nat)] 2 = some (.ref b3) := rfl
    have i0' : atI [V.ref T2, V.ref l2, vb2] 0 = some (.ref T2) := rfl
    have i1' : atI [V.ref T2, V.ref l2, vb2] 1 = some (.ref l2) := rfl
    have i2' : atI [V.ref T2, V.ref l2, vb2] 2 = some vb2 := rfl
    have j0' : atI [V.ref a1, V.ref a2, V.ref a3, V.int (t.lo : Nat)] 0 = some (.ref a1) := rfl
    have j1' : atI [V.ref a1, V.ref a2, V.ref a3, V.int (t.lo : Nat)] 1 = some (.ref a2) := rfl
    have j2' : atI [V.ref a1, V.ref a2, V.ref a3, V.int (t.lo : Nat)] 2 = some (.ref a3) := rfl
    walk_at "rd"
    intro H1 k1 h1
    have z1 := z.but (by simp) k1 ⟨_, h1⟩
    have g2 := k1 _ _ n12.symm g2
    have g3 := k1 _ _ n13.symm g3
    have g4 := k1 _ _ n14.symm g4
    have m1 : ∀ a u, a ∉ [b1, b2, b3, l1, b5] → H a = some u → H1 a = some u := fun a u m h => k1 a u (fun e => m (by rw [e]; simp)) h
    have gb : (bo = none ∧ vb1 = .non) ∨ ∃ bs, bo = some bs ∧ vb1 = .ref b5 ∧ H1 b5 = some (.lst (bs.map V.str)) := gb.elim .inl fun ⟨bs, e1, e2, e3⟩ => .inr ⟨bs, e1, e2, k1 _ _ n15.symm e3⟩
    clear z k1 g1
    have f2l : (t.fi.map V.str).length < 16777216 := by rw [List.length_map]; omega
    walk_at "rd"
    intro H2 k2 h2
    have z2 := z1.but (by simp) k2 ⟨_, h2⟩
    have h1 := k2 _ _ n12 h1
    have g3 := k2 _ _ n23.symm g3
    have g4 := k2 _ _ n24.symm g4
    have m2 : ∀ a u, a ∉ [b1, b2, b3, l1, b5] → H a = some u → H2 a = some u := fun a u m h => k2 a u (fun e => m (by rw [e]; simp)) (m1 a u m h)
    have gb : (bo = none ∧ vb1 = .non) ∨ ∃ bs, bo = some bs ∧ vb1 = .ref b5 ∧ H2 b5 = some (.lst (bs.map V.str)) := gb.elim .inl fun ⟨bs, e1, e2, e3⟩ => .inr ⟨bs, e1, e2, k2 _ _ n25.symm e3⟩
    clear z1 k2 g2 m1
    walk_at "rd"
    refine r_neD (d := .list (t.pa.map PyData.str)) (e := .list (t.pa.map PyData.str)) (.lst (sqL g3) (dp_strs _)) (.lst (sqL (z2.get cp.t.p)) (dp_strs _)) ?_ (shaped_strs lay.p) (shaped_strs lay.p)
    rw [eqv_strs lay.p]
    walk_at "rd"
    refine r_neD (d := .list (wsD ws)) (e := .list (wsD ws)) (.lst (sqL g4) (DqAll.dp (z2.ups d4) wlay.1)) (.lst (sqL (z2.get cp.l)) (DqAll.dp (z2.ups cp.d) wlay.1)) ?_ (wsD_layN ok.w.nm) (wsD_layN ok.w.nm)
    rw [show PyData.eqv (.list (wsD ws)) (.list (wsD ws)) = true by rw [PyData.eqv]; exact SeqAt.eqvAll_refl _ wlay.1]
    have f3l : (t.pa.map V.str).length < 16777216 := by rw [List.length_map]; omega
    walk_at "rd"
    intro H3 k3 h3
    have z3 := z2.but (by simp) k3 ⟨_, h3⟩
    have h1 := k3 _ _ n13 h1
    have h2 := k3 _ _ n23 h2
    have g4 := k3 _ _ n34.symm g4
    have m3 : ∀ a u, a ∉ [b1, b2, b3, l1, b5] → H a = some u → H3 a = some u := fun a u m h => k3 a u (fun e => m (by rw [e]; simp)) (m2 a u m h)
    have gb : (bo = none ∧ vb1 = .non) ∨ ∃ bs, bo = some bs ∧ vb1 = .ref b5 ∧ H3 b5 = some (.lst (bs.map V.str)) := gb.elim .inl fun ⟨bs, e1, e2, e3⟩ => .inr ⟨bs, e1, e2, k3 _ _ n35.symm e3⟩
    clear z2 k3 g3 m2
    walk_at "rd"
    intro l6 H4 n4 s4 h4
    have g2' := s4 _ _ (z3.get cp.t.f)
    walk_at "rd"
    intro l7 H5 n5 s5 h5
    have z5 := (z3.same (s4.trans s5)).z
    have h1 := s5 _ _ (s4 _ _ h1)
    have h2 := s5 _ _ (s4 _ _ h2)
    have g4 := s5 _ _ (s4 _ _ g4)
    have m5 : ∀ a u, a ∉ [b1, b2, b3, l1, b5] → H a = some u → H5 a = some u := fun a u m h => s5 _ _ (s4 _ _ (m3 a u m h))
    have gb : (bo = none ∧ vb1 = .non) ∨ ∃ bs, bo = some bs ∧ vb1 = .ref b5 ∧ H5 b5 = some (.lst (bs.map V.str)) := gb.elim .inl fun ⟨bs, e1, e2, e3⟩ => .inr ⟨bs, e1, e2, s5 _ _ (s4 _ _ e3)⟩
    have ea : t.fi.map V.str ++ [V.str (Str.ofString "a")] = (t.fi ++ [Str.ofString "a"]).map V.str := by rw [List.map_append]; rfl
    rw [ea] at h2 h5
    have la : ∀ z ∈ t.fi ++ [Str.ofString "a"], PyData.strOk z = true := fun z hz => by
      rcases List.mem_append.mp hz with hz | hz
      · exact lay.f z hz
      · rw [List.mem_singleton.mp hz]
        decide +kernel
    clear z3 s4 s5 n4 n5 h4 m3 g2'
    refine r_neD (d := .list ((t.fi ++ [Str.ofString "a"]).map PyData.str)) (e := .list ((t.fi ++ [Str.ofString "a"]).map PyData.str)) (.lst (sqL h2) (dp_strs _)) (.lst (sqL h5) (dp_strs _)) ?_ (shaped_strs la) (shaped_strs la)
    rw [eqv_strs la]
    walk_at "rd"
    have hs := cp.t.s
    have fin : ∀ G, Z.But l1 H5 G → G l1 = some (.lst []) → Evl.tCut (tIfS (tTest (tOp rIsNot (tOp (rIx K) (tVar 0) (tC (V.int 2))) (tC V.non))) (tDrop (tBM K "list" rAppend (tOp (rIx K) (tVar 0) (tC (V.int 2))) (tCons (tC (V.str (Str.ofString "a"))) tNil))) tNext)
        (tRet (tOp (rEqP K) (tCB (cLen K) (tCons (tOp (rIx K) (tOp (rIx K) (tVar 0) (tC (V.int 0))) (tC (V.int 0))) tNil)) (tOp (rAddP K) (tCB (cLen K) (tCons (tOp (rIx K) (tOp (rIx K) (tVar 1) (tC (V.int 0))) (tC (V.int 0))) tNil)) (tC (V.int 1))))) { nx := fun _ H' => Q .non H', rt := Q } [some (.ref c1), some (.ref c2)] G := fun G k6 h6 => by
      have z6 := z5.but (by simp) k6 ⟨_, h6⟩
      have h1 := k6 _ _ n14 h1
      have m6 : ∀ a u, a ∉ [b1, b2, b3, l1, b5] → H a = some u → G a = some u := fun a u m h => k6 a u (fun e => m (by rw [e]; simp)) (m5 a u m h)
      have x1l' : (xs1 ++ [V.non]).length = t.sg.length + 1 := by rw [List.length_append, gl]; rfl
      refine r_cut (fun σ' G2 => σ' = [some (.ref c1), some (.ref c2)] ∧ G2 b1 = some (.lst (xs1 ++ [V.non])) ∧ Fz [b1, b2, b3, l1, b5] F G2 ∧ ∀ a u, a ∉ [b1, b2, b3, l1, b5] → H a = some u → G2 a = some u) ?_ ?_
      · rcases gb with ⟨rfl, rfl⟩ | ⟨bs, rfl, rfl, hb5⟩
        · walk_at "rd"
          exact ⟨rfl, h1, z6, m6⟩
        · have hb6 := k6 _ _ n45.symm hb5
          have fbl : (bs.map V.str).length < 16777216 := by
            have := (ok.b bs rfl).1
            rw [List.length_map]
            omega
          walk_at "rd"
          intro G7 k7 h7
          exact ⟨rfl, k7 _ _ n15 h1, z6.but (by simp) k7 ⟨_, h7⟩, fun a u m h => k7 a u (fun e => m (by rw [e]; simp)) (m6 a u m h)⟩
      · rintro σ' G2 ⟨rfl, h1, z7, m7⟩
        clear z6
        walk_at "rd"
        rw [decide_eq_true (by omega)]
        exact q G2 m7
    rcases gb with ⟨rfl, rfl⟩ | ⟨bs, rfl, rfl, hb5⟩
    · rcases cp.b with ⟨_, rfl⟩ | ⟨o, bs, e, _⟩
      · refine r_ne ?_ rfl
        rw [decide_eq_true (rfl : V.non = V.non)]
        walk_at "rd"
        exact r_clear g4 fun H6 b6 f6 => fin H6 b6 f6
      · cases e
    · rcases cp.b with ⟨e, _⟩ | ⟨o, bs', e, rfl, ho⟩
      · cases e
      · cases e
        have lb : ∀ z ∈ bs, PyData.strOk z = true := fun z hz => word_ok ((ok.b bs rfl).2 z hz)
        refine r_neD (d := .list (bs.map PyData.str)) (e := .list (bs.map PyData.str)) (.lst (sqL hb5) (dp_strs _)) (.lst (sqL (z5.get ho)) (dp_strs _)) ?_ (shaped_strs lb) (shaped_strs lb)
        rw [eqv_strs lb]
        walk_at "rd"
        exact r_clear g4 fun H6 b6 f6 => fin H6 b6 f6
end
end My

namespace My
open PySem PySem.Spec PyProof.Rows L2 Z M SX TL
local macro_rules | `(tactic| walk_at "rd1") => `(tactic| first
  | ((with_reducible refine Z.r_fldHd ?_); first | ((with_reducible refine Z.r_fldW (dx := ?dx) ?h (Txt.l_CaseRows (by assumption)) (Txt.n_CaseRows_signs (by assumption)) (gl_CaseRows_signs (v0 := ?v0) (v1 := ?v1) (v2 := ?v2) (v3 := ?v3) (v4 := ?v4) (v5 := ?v5) (v6 := ?v6)) ?_); (case h => walk_at "lk")) | ((with_reducible refine Z.r_fldW (dx := ?dx) ?h (Txt.l_CaseRows (by assumption)) (Txt.n_CaseRows_letters (by assumption)) (gl_CaseRows_letters (v0 := ?v0) (v1 := ?v1) (v2 := ?v2) (v3 := ?v3) (v4 := ?v4) (v5 := ?v5) (v6 := ?v6)) ?_); (case h => walk_at "lk")) | ((with_reducible refine Z.r_fldW (dx := ?dx) ?h (Txt.l_CaseRows (by assumption)) (Txt.n_CaseRows_firsts (by assumption)) (gl_CaseRows_firsts (v0 := ?v0) (v1 := ?v1) (v2 := ?v2) (v3 := ?v3) (v4 := ?v4) (v5 := ?v5) (v6 := ?v6)) ?_); (case h => walk_at "lk")) | ((with_reducible refine Z.r_fldW (dx := ?dx) ?h (Txt.l_CaseRows (by assumption)) (Txt.n_CaseRows_pairs (by assumption)) (gl_CaseRows_pairs (v0 := ?v0) (v1 := ?v1) (v2 := ?v2) (v3 := ?v3) (v4 := ?v4) (v5 := ?v5) (v6 := ?v6)) ?_); (case h => walk_at "lk")) | ((with_reducible refine Z.r_fldW (dx := ?dx) ?h (Txt.l_CaseRows (by assumption)) (Txt.n_CaseRows_longest (by assumption)) (gl_CaseRows_longest (v0 := ?v0) (v1 := ?v1) (v2 := ?v2) (v3 := ?v3) (v4 := ?v4) (v5 := ?v5) (v6 := ?v6)) ?_); (case h => walk_at "lk")) | ((with_reducible refine Z.r_fldW (dx := ?dx) ?h (Txt.l_CaseRows (by assumption)) (Txt.n_CaseRows_wants (by assumption)) (gl_CaseRows_wants (v0 := ?v0) (v1 := ?v1) (v2 := ?v2) (v3 := ?v3) (v4 := ?v4) (v5 := ?v5) (v6 := ?v6)) ?_); (case h => walk_at "lk")) | ((with_reducible refine Z.r_fldW (dx := ?dx) ?h (Txt.l_CaseRows (by assumption)) (Txt.n_CaseRows_words (by assumption)) (gl_CaseRows_words (v0 := ?v0) (v1 := ?v1) (v2 := ?v2) (v3 := ?v3) (v4 := ?v4) (v5 := ?v5) (v6 := ?v6)) ?_); (case h => walk_at "lk")))
  | ((with_reducible refine Z.r_setHd ?_); first | ((with_reducible refine Z.r_setW (dx := ?dx) ?h (Txt.l_CaseRows (by assumption)) (Txt.n_CaseRows_signs (by assumption)) ln_CaseRows (pt_CaseRows_signs (v0 := ?v0) (v1 := ?v1) (v2 := ?v2) (v3 := ?v3) (v4 := ?v4) (v5 := ?v5) (v6 := ?v6)) ?_); (case h => walk_at "lk")) | ((with_reducible refine Z.r_setW (dx := ?dx) ?h (Txt.l_CaseRows (by assumption)) (Txt.n_CaseRows_letters (by assumption)) ln_CaseRows (pt_CaseRows_letters (v0 := ?v0) (v1 := ?v1) (v2 := ?v2) (v3 := ?v3) (v4 := ?v4) (v5 := ?v5) (v6 := ?v6)) ?_); (case h => walk_at "lk")) | ((with_reducible refine Z.r_setW (dx := ?dx) ?h (Txt.l_CaseRows (by assumption)) (Txt.n_CaseRows_firsts (by assumption)) ln_CaseRows (pt_CaseRows_firsts (v0 := ?v0) (v1 := ?v1) (v2 := ?v2) (v3 := ?v3) (v4 := ?v4) (v5 := ?v5) (v6 := ?v6)) ?_); (case h => walk_at "lk")) | ((with_reducible refine Z.r_setW (dx := ?dx) ?h (Txt.l_CaseRows (by assumption)) (Txt.n_CaseRows_pairs (by assumption)) ln_CaseRows (pt_CaseRows_pairs (v0 := ?v0) (v1 := ?v1) (v2 := ?v2) (v3 := ?v3) (v4 := ?v4) (v5 := ?v5) (v6 := ?v6)) ?_); (case h => walk_at "lk")) | ((with_reducible refine Z.r_setW (dx := ?dx) ?h (Txt.l_CaseRows (by assumption)) (Txt.n_CaseRows_longest (by assumption)) ln_CaseRows (pt_CaseRows_longest (v0 := ?v0) (v1 := ?v1) (v2 := ?v2) (v3 := ?v3) (v4 := ?v4) (v5 := ?v5) (v6 := ?v6)) ?_); (case h => walk_at "lk")) | ((with_reducible refine Z.r_setW (dx := ?dx) ?h (Txt.l_CaseRows (by assumption)) (Txt.n_CaseRows_wants (by assumption)) ln_CaseRows (pt_CaseRows_wants (v0 := ?v0) (v1 := ?v1) (v2 := ?v2) (v3 := ?v3) (v4 := ?v4) (v5 := ?v5) (v6 := ?v6)) ?_); (case h => walk_at "lk")) | ((with_reducible refine Z.r_setW (dx := ?dx) ?h (Txt.l_CaseRows (by assumption)) (Txt.n_CaseRows_words (by assumption)) ln_CaseRows (pt_CaseRows_words (v0 := ?v0) (v1 := ?v1) (v2 := ?v2) (v3 := ?v3) (v4 := ?v4) (v5 := ?v5) (v6 := ?v6)) ?_); (case h => walk_at "lk")))
  | ((with_reducible refine Z.r_methHd ?_); first | ((with_reducible refine Z.r_methW (dx := ?dx) ?h (ml_CaseRows_takes_sign (v0 := ?v0) (v1 := ?v1) (v2 := ?v2) (v3 := ?v3) (v4 := ?v4) (v5 := ?v5) (v6 := ?v6)) ?_); (case h => walk_at "lk")) | ((with_reducible refine Z.r_methSW (dx := ?dx) ?h (ml_CaseRows_takes_sign (v0 := ?v0) (v1 := ?v1) (v2 := ?v2) (v3 := ?v3) (v4 := ?v4) (v5 := ?v5) (v6 := ?v6)) ?_); (case h => walk_at "lk")) | ((with_reducible refine Z.r_methW (dx := ?dx) ?h (ml_CaseRows_is_open (v0 := ?v0) (v1 := ?v1) (v2 := ?v2) (v3 := ?v3) (v4 := ?v4) (v5 := ?v5) (v6 := ?v6)) ?_); (case h => walk_at "lk")) | ((with_reducible refine Z.r_methSW (dx := ?dx) ?h (ml_CaseRows_is_open (v0 := ?v0) (v1 := ?v1) (v2 := ?v2) (v3 := ?v3) (v4 := ?v4) (v5 := ?v5) (v6 := ?v6)) ?_); (case h => walk_at "lk")) | ((with_reducible refine Z.r_methW (dx := ?dx) ?h (ml_CaseRows_takes_first (v0 := ?v0) (v1 := ?v1) (v2 := ?v2) (v3 := ?v3) (v4 := ?v4) (v5 := ?v5) (v6 := ?v6)) ?_); (case h => walk_at "lk")) | ((with_reducible refine Z.r_methSW (dx := ?dx) ?h (ml_CaseRows_takes_first (v0 := ?v0) (v1 := ?v1) (v2 := ?v2) (v3 := ?v3) (v4 := ?v4) (v5 := ?v5) (v6 := ?v6)) ?_); (case h => walk_at "lk")) | ((with_reducible refine Z.r_methW (dx := ?dx) ?h (ml_CaseRows_takes_pair (v0 := ?v0) (v1 := ?v1) (v2 := ?v2) (v3 := ?v3) (v4 := ?v4) (v5 := ?v5) (v6 := ?v6)) ?_); (case h => walk_at "lk")) | ((with_reducible refine Z.r_methSW (dx := ?dx) ?h (ml_CaseRows_takes_pair (v0 := ?v0) (v1 := ?v1) (v2 := ?v2) (v3 := ?v3) (v4 := ?v4) (v5 := ?v5) (v6 := ?v6)) ?_); (case h => walk_at "lk")) | ((with_reducible refine Z.r_methW (dx := ?dx) ?h (ml_CaseRows_takes_longest (v0 := ?v0) (v1 := ?v1) (v2 := ?v2) (v3 := ?v3) (v4 := ?v4) (v5 := ?v5) (v6 := ?v6)) ?_); (case h => walk_at "lk")) | ((with_reducible refine Z.r_methSW (dx := ?dx) ?h (ml_CaseRows_takes_longest (v0 := ?v0) (v1 := ?v1) (v2 := ?v2) (v3 := ?v3) (v4 := ?v4) (v5 := ?v5) (v6 := ?v6)) ?_); (case h => walk_at "lk")) | ((with_reducible refine Z.r_methW (dx := ?dx) ?h (ml_CaseRows_takes_thing (v0 := ?v0) (v1 := ?v1) (v2 := ?v2) (v3 := ?v3) (v4 := ?v4) (v5 := ?v5) (v6 := ?v6)) ?_); (case h => walk_at "lk")) | ((with_reducible refine Z.r_methSW (dx := ?dx) ?h (ml_CaseRows_takes_thing (v0 := ?v0) (v1 := ?v1) (v2 := ?v2) (v3 := ?v3) (v4 := ?v4) (v5 := ?v5) (v6 := ?v6)) ?_); (case h => walk_at "lk")) | ((with_reducible refine Z.r_methW (dx := ?dx) ?h (ml_CaseRows_takes_word (v0 := ?v0) (v1 := ?v1) (v2 := ?v2) (v3 := ?v3) (v4 := ?v4) (v5 := ?v5) (v6 := ?v6)) ?_); (case h => walk_at "lk")) | ((with_reducible refine Z.r_methSW (dx := ?dx) ?h (ml_CaseRows_takes_word (v0 := ?v0) (v1 := ?v1) (v2 := ?v2) (v3 := ?v3) (v4 := ?v4) (v5 := ?v5) (v6 := ?v6)) ?_); (case h => walk_at "lk")) | ((with_reducible refine Z.r_methW (dx := ?dx) ?h (ml_CaseRows_takes (v0 := ?v0) (v1 := ?v1) (v2 := ?v2) (v3 := ?v3) (v4 := ?v4) (v5 := ?v5) (v6 := ?v6)) ?_); (case h => walk_at "lk")) | ((with_reducible refine Z.r_methSW (dx := ?dx) ?h (ml_CaseRows_takes (v0 := ?v0) (v1 := ?v1) (v2 := ?v2) (v3 := ?v3) (v4 := ?v4) (v5 := ?v5) (v6 := ?v6)) ?_); (case h => walk_at "lk")) | ((with_reducible refine Z.r_methW (dx := ?dx) ?h (ml_CaseRows_lacks (v0 := ?v0) (v1 := ?v1) (v2 := ?v2) (v3 := ?v3) (v4 := ?v4) (v5 := ?v5) (v6 := ?v6)) ?_); (case h => walk_at "lk")) | ((with_reducible refine Z.r_methSW (dx := ?dx) ?h (ml_CaseRows_lacks (v0 := ?v0) (v1 := ?v1) (v2 := ?v2) (v3 := ?v3) (v4 := ?v4) (v5 := ?v5) (v6 := ?v6)) ?_); (case h => walk_at "lk")) | ((with_reducible refine Z.r_methW (dx := ?dx) ?h (ml_CaseRows_made (v0 := ?v0) (v1 := ?v1) (v2 := ?v2) (v3 := ?v3) (v4 := ?v4) (v5 := ?v5) (v6 := ?v6)) ?_); (case h => walk_at "lk")) | ((with_reducible refine Z.r_methSW (dx := ?dx) ?h (ml_CaseRows_made (v0 := ?v0) (v1 := ?v1) (v2 := ?v2) (v3 := ?v3) (v4 := ?v4) (v5 := ?v5) (v6 := ?v6)) ?_); (case h => walk_at "lk")))
  | ((with_reducible refine Z.r_methSHd ?_); first | ((with_reducible refine Z.r_methW (dx := ?dx) ?h (ml_CaseRows_takes_sign (v0 := ?v0) (v1 := ?v1) (v2 := ?v2) (v3 := ?v3) (v4 := ?v4) (v5 := ?v5) (v6 := ?v6)) ?_); (case h => walk_at "lk")) | ((with_reducible refine Z.r_methSW (dx := ?dx) ?h (ml_CaseRows_takes_sign (v0 := ?v0) (v1 := ?v1) (v2 := ?v2) (v3 := ?v3) (v4 := ?v4) (v5 := ?v5) (v6 := ?v6)) ?_); (case h => walk_at "lk")) | ((with_reducible refine Z.r_methW (dx := ?dx) ?h (ml_CaseRows_is_open (v0 := ?v0) (v1 := ?v1) (v2 := ?v2) (v3 := ?v3) (v4 := ?v4) (v5 := ?v5) (v6 := ?v6)) ?_); (case h => walk_at "lk")) | ((with_reducible refine Z.r_methSW (dx := ?dx) ?h (ml_CaseRows_is_open (v0 := ?v0) (v1 := ?v1) (v2 := ?v2) (v3 := ?v3) (v4 := ?v4) (v5 := ?v5) (v6 := ?v6)) ?_); (case h => walk_at "lk")) | ((with_reducible refine Z.r_methW (dx := ?dx) ?h (ml_CaseRows_takes_first (v0 := ?v0) (v1 := ?v1) (v2 := ?v2) (v3 := ?v3) (v4 := ?v4) (v5 := ?v5) (v6 := ?v6)) ?_); (case h => walk_at "lk")) | ((with_reducible refine Z.r_methSW (dx := ?dx) ?h (ml_CaseRows_takes_first (v0 := ?v0) (v1 := ?v1) (v2 := ?v2) (v3 := ?v3) (v4 := ?v4) (v5 := ?v5) (v6 := ?v6)) ?_); (case h => walk_at "lk")) | ((with_reducible refine Z.r_methW (dx := ?dx) ?h (ml_CaseRows_takes_pair (v0 := ?v0) (v1 := ?v1) (v2 := ?v2) (v3 := ?v3) (v4 := ?v4) (v5 := ?v5) (v6 := ?v6)) ?_); (case h => walk_at "lk")) | ((with_reducible refine Z.r_methSW (dx := ?dx) ?h (ml_CaseRows_takes_pair (v0 := ?v0) (v1 := ?v1) (v2 := ?v2) (v3 := ?v3) (v4 := ?v4) (v5 := ?v5) (v6 := ?v6)) ?_); (case h => walk_at "lk")) | ((with_reducible refine Z.r_methW (dx := ?dx) ?h (ml_CaseRows_takes_longest (v0 := ?v0) (v1 := ?v1) (v2 := ?v2) (v3 := ?v3) (v4 := ?v4) (v5 := ?v5) (v6 := ?v6)) ?_); (case h => walk_at "lk")) | ((with_reducible refine Z.r_methSW (dx := ?dx) ?h (ml_CaseRows_takes_longest (v0 := ?v0) (v1 := ?v1) (v2 := ?v2) (v3 := ?v3) (v4 := ?v4) (v5 := ?v5) (v6 := ?v6)) ?_); (case h => walk_at "lk")) | ((with_reducible refine Z.r_methW (dx := ?dx) ?h (ml_CaseRows_takes_thing (v0 := ?v0) (v1 := ?v1) (v2 := ?v2) (v3 := ?v3) (v4 := ?v4) (v5 := ?v5) (v6 := ?v6)) ?_); (case h => walk_at "lk")) | ((with_reducible refine Z.r_methSW (dx := ?dx) ?h (ml_CaseRows_takes_thing (v0 := ?v0) (v1 := ?v1) (v2 := ?v2) (v3 := ?v3) (v4 := ?v4) (v5 := ?v5) (v6 := ?v6)) ?_); (case h => walk_at "lk")) | ((with_reducible refine Z.r_methW (dx := ?dx) ?h (ml_CaseRows_takes_word (v0 := ?v0) (v1 := ?v1) (v2 := ?v2) (v3 := ?v3) (v4 := ?v4) (v5 := ?v5) (v6 := ?v6)) ?_); (case h => walk_at "lk")) | ((with_reducible refine Z.r_methSW (dx := ?dx) ?h (ml_CaseRows_takes_word (v0 := ?v0) (v1 := ?v1) (v2 := ?v2) (v3 := ?v3) (v4 := ?v4) (v5 := ?v5) (v6 := ?v6)) ?_); (case h => walk_at "lk")) | ((with_reducible refine Z.r_methW (dx := ?dx) ?h (ml_CaseRows_takes (v0 := ?v0) (v1 := ?v1) (v2 := ?v2) (v3 := ?v3) (v4 := ?v4) (v5 := ?v5) (v6 := ?v6)) ?_); (case h => walk_at "lk")) | ((with_reducible refine Z.r_methSW (dx := ?dx) ?h (ml_CaseRows_takes (v0 := ?v0) (v1 := ?v1) (v2 := ?v2) (v3 := ?v3) (v4 := ?v4) (v5 := ?v5) (v6 := ?v6)) ?_); (case h => walk_at "lk")) | ((with_reducible refine Z.r_methW (dx := ?dx) ?h (ml_CaseRows_lacks (v0 := ?v0) (v1 := ?v1) (v2 := ?v2) (v3 := ?v3) (v4 := ?v4) (v5 := ?v5) (v6 := ?v6)) ?_); (case h => walk_at "lk")) | ((with_reducible refine Z.r_methSW (dx := ?dx) ?h (ml_CaseRows_lacks (v0 := ?v0) (v1 := ?v1) (v2 := ?v2) (v3 := ?v3) (v4 := ?v4) (v5 := ?v5) (v6 := ?v6)) ?_); (case h => walk_at "lk")) | ((with_reducible refine Z.r_methW (dx := ?dx) ?h (ml_CaseRows_made (v0 := ?v0) (v1 := ?v1) (v2 := ?v2) (v3 := ?v3) (v4 := ?v4) (v5 := ?v5) (v6 := ?v6)) ?_); (case h => walk_at "lk")) | ((with_reducible refine Z.r_methSW (dx := ?dx) ?h (ml_CaseRows_made (v0 := ?v0) (v1 := ?v1) (v2 := ?v2) (v3 := ?v3) (v4 := ?v4) (v5 := ?v5) (v6 := ?v6)) ?_); (case h => walk_at "lk")))
  | with_reducible refine Z.r_fld ?_
  | with_reducible refine Z.r_sfld ?_
  | with_reducible refine Z.r_afld ?_
  | with_reducible refine Z.r_meth ?_
  | with_reducible refine Z.r_methS ?_
  | with_reducible refine Z.r_make ?_)
section
variable {P : Program} {w : World} {K : PySem.W.Frag} {mg : Str → Option Value} {base : Heap}
/-! ### the law -/
theorem bo_vb {vb : V} {a5 : Addr} {ws : List (Str × Nat)} {t : Tg} {bo : Option (List Str)} (ok : CsOk t ws bo) (h : vb = (if bkL bo = [] then .non else .ref a5)) : (bo = none ∧ vb = .non) ∨ ∃ bs, bo = some bs ∧ vb = .ref a5 := by
  cases bo with
  | none => exact .inl ⟨rfl, h⟩
  | some bs =>
    refine .inr ⟨bs, rfl, ?_⟩
    rw [h, if_neg]
    intro e
    have e : bs = [] := e
    have h1 := (ok.b bs rfl).1
    have h2 := ok.w.l1
    rw [e] at h1
    simp at h1
    omega
theorem text_len {H : Hp} {T l : Addr} {vb : V} {t : Tg} {ws : List (Str × Nat)} {bo : Option (List Str)} {a1 a2 a3 : Addr} {xs ys : List V} (cp : CsP H T l vb t ws bo a1 a2 a3 xs ys) (ok : CsOk t ws bo) : (textC t ws bo).length ≤ 160000 ∧ ∀ r ∈ rowsC t ws bo, r.length ≤ 3000 := by
  have h1 := rowsS_len cp ok
  have h2 := rowsS_many cp ok
  have h3 : ∀ r ∈ rowsC t ws bo, r.length ≤ 500 := fun r hr => by
    obtain ⟨z, hz, rfl⟩ := List.mem_map.mp hr
    have := h1 z hz
    rwa [len_tl] at this
  refine ⟨?_, fun r hr => Nat.le_trans (h3 r hr) (by decide)⟩
  have h4 := joinL_len (rowsC t ws bo) 500 h3
  have h5 : (rowsC t ws bo).length ≤ 300 := by
    unfold rowsC
    rw [List.length_map]
    exact h2
  unfold textC
  omega
def sp_law (K : PySem.W.Frag) : Sp := fun vs H Q _ => ∃ (a : Addr) (ns : List Int), vs = [.ref a] ∧ SqL K H a (ns.map V.int) ∧ ns.length ≤ 63 ∧ ∀ H', Q (.bl true) H'
theorem ok_law (T : Txt K mg) {fa : Addr} (hmg : mg "law" = some (.ref fa)) : ∃ fd : FuncData, (∀ (s : Shared) (u : Value), BindsTo s fd ⟨[u], []⟩ [("_law_script", u)]) ∧ ∀ base : Heap, FnOk P w K mg base CX0 10 fa fd ["_law_script"] (sp_law K) := by
  refine T.d_law.law hmg sc_law (fun vs H Q E h => ?_) (fun _ _ _ _ _ _ _ => rfl) (fun base f cdv A outer s H vs Q E hr h => ⟨_, (pss_cons (ps_set (i := 1) sc_law.nd rfl (Or.inl rfl) (pe_c0 (ok_law_called T) hr (by decide) rfl (pa_cons (pv 0) (pa_cons (pe_c0 (ok_law_case T) hr (by decide) rfl (pa_cons (pv 0) (pa_cons pe_int pa_nil))) pa_nil))))
  (pss_cons (ps_for PassesOwn.never rfl (pi_range2 rfl T.b_range (pa_cons pe_int (pa_cons (pe_callB (call_maxP rfl) rfl T.b_max (by decide +kernel) (pa_cons pe_int (pa_cons (pe_callB (call_minP rfl) rfl T.b_min (by decide +kernel) (pa_cons (pe_callB (k_len K) rfl T.b_len (by decide +kernel) (pa_cons (pv 0) pa_nil)) (pa_cons pe_int pa_nil))) pa_nil))) pa_nil))) (pg_name (i := 2) sc_law.nd rfl (Or.inl rfl))
  (Evl.pss_cut (ps_if (pt_cmpR op_gtI (pv 2) pe_int (nomark _))
  (pss_one (ps_set (i := 1) sc_law.nd rfl (Or.inl rfl) (pe_c0 (ok_law_other T) hr (by decide) rfl (pa_cons (pe_c0 (ok_law_pool T) hr (by decide) rfl (pa_cons (pv 0) (pa_cons (pv 2) pa_nil))) (pa_cons (pv 1) pa_nil))))) pss_nil)
  (pss_cons (ps_set (i := 3) sc_law.nd rfl (Or.inl rfl) (pe_ce (ok_write_case T) hr (by decide) rfl takes0 (pa_cons (pv 1) pa_nil)))
  (pss_cons (ps_set (i := 4) sc_law.nd rfl (Or.inl rfl) (pe_ce (ok_read_case T) hr (by decide) rfl takes0 (pa_cons (pv 3) pa_nil)))
  (pss_cons (ps_if (PW.pt (pw_or (pt_not (pt_val (pe_c0 (ok_law_same T) hr (by decide) rfl (pa_cons (pv 4) (pa_cons (pv 1) pa_nil))))) (pw_or1 (pt_cmpR (k_neP K hr.units) (pe_ce (ok_write_case T) hr (by decide) rfl takes0 (pa_cons (pv 4) pa_nil)) (pv 3) (nomark _)))))
  (pss_one (ps_ret pe_bl)) pss_nil)
  (pss_cons (ps_if (pt_not (pt_val (pe_c0 (ok_law_is_spoilt T) hr (by decide) rfl (pa_cons (pv 4) (pa_cons (pv 1) pa_nil)))))
  (pss_one (ps_ret pe_bl)) pss_nil)
  (pss_one (ps_if (PW.pt (pw_and (pt_cmpR (k_eqP K hr.units) (pe_op op_modP (pv 2) pe_int) pe_int (nomark _)) (pw_and1 (pt_not (pt_val (pe_c0 (ok_law_same T) hr (by decide) rfl (pa_cons (pe_ce (ok_read_case T) hr (by decide) rfl takes0 (pa_cons (pv 3) pa_nil)) (pa_cons (pv 1) pa_nil))))))))
  (pss_one (ps_ret pe_bl)) pss_nil))))))))
  (pss_one (ps_ret pe_bl)))), ?_⟩)
  · obtain ⟨a, ns, rfl, _⟩ := h
    rfl
  · obtain ⟨a, ns, rfl, ha, hl, q⟩ := h
    rw [st_law]
    walk_at "st"
    walk_at "rd"
    refine ⟨a, ns, 20, rfl, ha, by decide, by decide, fun c0 t0 ws0 bo0 H1 ok0 hwl e1 hc0 => ?_⟩
    have ha1 := upL e1 ha
    walk_at "rd"
    refine ⟨a, ns, c0, t0, ws0, bo0, rfl, ha1, hl, hc0, ok0, fun c t ws bo H3 ok e2 hc => ?_⟩
    have ha3 := upL e2 ha1
    have hnl : (ns.map V.int).length = ns.length := List.length_map _
    clear hc0 ha1 e1 e2 ha
    walk_at "rd"
    rw [hnl]
    refine forW walk_range (fun i σ G => ∃ (c : Addr) (t : Tg) (ws : List (Str × Nat)) (bo : Option (List Str)) (z2 z3 z4 : Option V), σ = [some (.ref a), some (.ref c), z2, z3, z4] ∧ Same H3 G ∧ CsAt G c t ws bo ∧ CsOk t ws bo) ⟨c, t, ws, bo, none, none, none, rfl, Same.refl _, hc, ok⟩ (fun _ _ _ _ _ => trivial) ?_ ?_
    · rintro i x σ _ G hi ⟨c, t, ws, bo, z2, z3, z4, rfl, e4, hc, ok⟩ ⟨rfl, rfl⟩
      have hi61 : i < 61 := by
        split at hi
        · split at hi <;> omega
        · omega
      clear hi
      have ha4 := upL e4 ha3
      dsimp only
      rw [show (2 : Int) + ((i : Nat) : Int) = ((2 + i : Nat) : Int) by omega]
      walk_at "rd"
      refine r_cut (fun σ' H' => ∃ (c : Addr) (t : Tg) (ws : List (Str × Nat)) (bo : Option (List Str)), σ' = [some (.ref a), some (.ref c), some (.int (2 + i : Nat)), z3, z4] ∧ Same H3 H' ∧ CsAt H' c t ws bo ∧ CsOk t ws bo) ?_ ?_
      · walk_at "rd"
        refine r_ite (fun h1 => ?_) (fun h1 => ?_)
        · walk_at "rd"
          refine ⟨a, ns, 2 + i, rfl, ha4, by omega, fun p G2 n2 s2 q2 => ?_⟩
          walk_at "rd"
          refine ⟨p, c, t, ws, bo, rfl, q2, hc.up (toDel s2 n2), ok, fun c' t' ws' bo' G3 ok' o3 hc' => ?_⟩
          walk_at "rd"
          exact ⟨c', t', ws', bo', rfl, e4.trans ((Po.new n2 s2 o3).trans del_sub), hc'.up del_sub, ok'⟩
        · walk_at "rd"
          exact ⟨c, t, ws, bo, rfl, e4, hc, ok⟩
      rintro σ G4 ⟨c, t, ws, bo, rfl, e5, ⟨TT, l, vb, a1, a2, a3, xs, ys, hc, cp⟩, ok⟩
      clear ha4 e4
      walk_at "rd"
      refine ⟨c, .ref TT, .ref l, vb, rfl, hc, .inr (.inr ⟨t, ws, bo, TT, l, a1, a2, a3, xs, ys, rfl, rfl, cp, ok, fun G6 s6 => ?_⟩)⟩
      rw [text_eq]
      obtain ⟨tl1, tl2⟩ := text_len cp ok
      have cp6 := cp.up s6
      have hc6 := s6 _ _ hc
      have e6 := e5.trans s6
      clear e5 s6 hc cp
      walk_at "rd"
      refine ⟨_, rfl, .inl ⟨textC t ws bo, rfl, by omega, by rw [text_split ok]; exact tl2, ?_⟩⟩
      unfold readQ
      rw [text_split ok, rows_read ok]
      dsimp only
      rw [if_neg (by rw [rs_whole ok]; exact Bool.false_ne_true)]
      refine ⟨t.lo, rfl, fun c1 T1 vb1 b1 b2 b3 l1 b5 xs1 ys1 F7 G7 s7 hc1 hT1 hvb g1 d1 g2 g3 g4 d4 g5 z7 sF7 hnew hnd => ?_⟩
      have g5 : G7 b5 = some (.lst ((bkL bo).map V.str)) := g5
      have hvb2 := bo_vb ok hvb
      have bAt : ∀ {G : Hp}, Same G7 G → (bo = none ∧ vb1 = .non) ∨ ∃ bs, bo = some bs ∧ vb1 = .ref b5 ∧ G b5 = some (.lst (bs.map V.str)) := fun {G} e => hvb2.elim .inl fun ⟨bs, e1, e2⟩ => .inr ⟨bs, e1, e2, by
        subst e1
        exact e _ _ g5⟩
      have cpT : CsP G7 T1 l1 vb1 t ws bo b1 b2 b3 xs1 ys1 := ⟨⟨rfl, hT1, g1, d1.up z7.s, g2, g3, cp6.t.k1, cp6.t.k2, cp6.t.k3, by have := ok.t.n2; omega⟩, g4, d4.up z7.s, (bAt (Same.refl _)).elim .inl fun ⟨bs, e1, e2, e3⟩ => .inr ⟨b5, bs, e1, e2, e3⟩⟩
      walk_at "rd"
      refine ⟨.ref c1, .ref c, csD t ws bo, rfl, cpT.dq ok hc1, (cp6.up s7).dq ok (s7 _ _ hc6), okD_cs t ws bo, fun H8 e8 => ?_⟩
      walk_at "rd"
      refine ⟨c1, .ref T1, .ref l1, vb1, rfl, e8 _ _ hc1, .inr (.inr ⟨t, ws, bo, T1, l1, b1, b2, b3, xs1, ys1, rfl, rfl, cpT.up e8, ok, fun H9 e9 => ?_⟩)⟩
      rw [text_eq]
      walk_at "rd"
      refine r_ndT rfl ?_
      walk_at "rd"
      have e79 := e8.trans e9
      have sF : Same F7 (hideL H9 [b1, b2, b3, l1, b5]) := hide_same (z7.s.trans e79) z7.n
      have tn : ∀ {a : Addr} {us : List V}, G7 a = some (.tup us) → a ∉ [b1, b2, b3, l1, b5] := fun {a us} h m => by
        simp only [List.mem_cons, List.not_mem_nil, or_false] at m
        rcases m with rfl | rfl | rfl | rfl | rfl
        · rw [g1] at h; cases h
        · rw [g2] at h; cases h
        · rw [g3] at h; cases h
        · rw [g4] at h; cases h
        · rw [g5] at h; cases h
      have zH : Fz [b1, b2, b3, l1, b5] (hideL H9 [b1, b2, b3, l1, b5]) H9 := Fz.hide fun a m => by
        obtain ⟨u, h⟩ := z7.v a m
        exact ⟨u, e79 _ _ h⟩
      have nd5 : [b1, b2, b3, l1, b5].Nodup := hnd
      have hnew5 : ∀ a ∈ [b1, b2, b3, l1, b5], G6 a = none := hnew
      refine ⟨c1, c, t, ws, bo, T1, l1, vb1, b1, b2, b3, b5, xs1, ys1, hideL H9 [b1, b2, b3, l1, b5], rfl, hide_get (e79 _ _ hc1) (tn hc1), hide_get (e79 _ _ hT1) (tn hT1), e79 _ _ g1, by rw [d1.length, List.length_map]; rfl, e79 _ _ g2, e79 _ _ g3, e79 _ _ g4, d4.up sF, bAt e79, zH, nd5, ⟨TT, l, vb, a1, a2, a3, xs, ys, sF _ _ (sF7 _ _ hc6), cp6.up (sF7.trans sF)⟩, ok, fun H10 m10 => ?_⟩
      have s10 : Same G6 H10 := fun a u h => m10 a u (fun m => by rw [hnew5 a m] at h; cases h) ((s7.trans e79) _ _ h)
      have hc10 := s10 _ _ hc6
      have cp10 := cp6.up s10
      have e10 := e6.trans s10
      clear zH sF tn m10 s10 cpT bAt e79 e9 e8 g1 g2 g3 g4 g5 d1 d4 z7 sF7 hnew hnd hc1 hT1 hvb hvb2 s7 cp6 hc6 e6 hnew5 nd5
      walk_at "rd"
      refine r_ite (fun h4 => ?_) (fun h4 => ?_)
      · walk_at "rd"
        refine ⟨_, rfl, .inl ⟨textC t ws bo, rfl, by omega, by rw [text_split ok]; exact tl2, ?_⟩⟩
        unfold readQ
        rw [text_split ok, rows_read ok]
        dsimp only
        rw [if_neg (by rw [rs_whole ok]; exact Bool.false_ne_true)]
        refine ⟨t.lo, rfl, fun c1 T1 vb1 b1 b2 b3 l1 b5 xs1 ys1 F7 G7 s7 hc1 hT1 hvb g1 d1 g2 g3 g4 d4 g5 z7 sF7 hnew hnd => ?_⟩
        have g5 : G7 b5 = some (.lst ((bkL bo).map V.str)) := g5
        have hvb2 := bo_vb ok hvb
        have cpT : CsP G7 T1 l1 vb1 t ws bo b1 b2 b3 xs1 ys1 := ⟨⟨rfl, hT1, g1, d1.up z7.s, g2, g3, cp10.t.k1, cp10.t.k2, cp10.t.k3, by have := ok.t.n2; omega⟩, g4, d4.up z7.s, hvb2.elim .inl fun ⟨bs, e1, e2⟩ => .inr ⟨b5, bs, e1, e2, by
          subst e1
          exact g5⟩⟩
        walk_at "rd"
        refine ⟨.ref c1, .ref c, csD t ws bo, rfl, cpT.dq ok hc1, (cp10.up s7).dq ok (s7 _ _ hc10), okD_cs t ws bo, fun H12 e12 => ?_⟩
        walk_at "rd"
        exact ⟨c, t, ws, bo, _, _, _, rfl, e10.trans (s7.trans e12), ⟨TT, l, vb, a1, a2, a3, xs, ys, (s7.trans e12) _ _ hc10, cp10.up (s7.trans e12)⟩, ok⟩
      · walk_at "rd"
        exact ⟨c, t, ws, bo, _, _, _, rfl, e10, ⟨TT, l, vb, a1, a2, a3, xs, ys, hc10, cp10⟩, ok⟩
    · rintro σ G ⟨c, t, ws, bo, z2, z3, z4, rfl, e4, hc, ok⟩
      walk_at "rd"
      exact q _
end
end My

namespace My
open PySem PySem.Spec PyProof.Rows L2 Z M SX TL
theorem facts {K : PySem.W.Frag} {h : Heap} {mg : Str → Option Value} (X : K.In h) (G : h.Ns mainGlobals mg) (c : Z.SaysE fa fn exb K) : Txt K mg where
  ex := Z.exsB_ok X G c.more
  i_NoTongue := by
    obtain ⟨fd, F⟩ := c.d.def_ 36 (d := di_NoTongue) rfl
    exact ⟨fd, F⟩
  i_NoWants := by
    obtain ⟨fd, F⟩ := c.d.def_ 37 (d := di_NoWants) rfl
    exact ⟨fd, F⟩
  i_NoText := by
    obtain ⟨fd, F⟩ := c.d.def_ 38 (d := di_NoText) rfl
    exact ⟨fd, F⟩
  d_CaseRows___init__ := by
    obtain ⟨fd, F⟩ := c.d.def_ 39 (d := dm_CaseRows___init__) rfl
    exact ⟨fd, F⟩
  d_CaseRows_takes_sign := by
    obtain ⟨fd, F⟩ := c.d.def_ 40 (d := dm_CaseRows_takes_sign) rfl
    exact ⟨fd, F⟩
  d_CaseRows_is_open := by
    obtain ⟨fd, F⟩ := c.d.def_ 41 (d := dm_CaseRows_is_open) rfl
    exact ⟨fd, F⟩
  d_CaseRows_takes_first := by
    obtain ⟨fd, F⟩ := c.d.def_ 42 (d := dm_CaseRows_takes_first) rfl
    exact ⟨fd, F⟩
  d_CaseRows_takes_pair := by
    obtain ⟨fd, F⟩ := c.d.def_ 43 (d := dm_CaseRows_takes_pair) rfl
    exact ⟨fd, F⟩
  d_CaseRows_takes_longest := by
    obtain ⟨fd, F⟩ := c.d.def_ 44 (d := dm_CaseRows_takes_longest) rfl
    exact ⟨fd, F⟩
  d_CaseRows_takes_thing := by
    obtain ⟨fd, F⟩ := c.d.def_ 45 (d := dm_CaseRows_takes_thing) rfl
    exact ⟨fd, F⟩
  d_CaseRows_takes_word := by
    obtain ⟨fd, F⟩ := c.d.def_ 46 (d := dm_CaseRows_takes_word) rfl
    exact ⟨fd, F⟩
  d_CaseRows_takes := by
    obtain ⟨fd, F⟩ := c.d.def_ 47 (d := dm_CaseRows_takes) rfl
    exact ⟨fd, F⟩
  d_CaseRows_lacks := by
    obtain ⟨fd, F⟩ := c.d.def_ 48 (d := dm_CaseRows_lacks) rfl
    exact ⟨fd, F⟩
  d_CaseRows_made := by
    obtain ⟨fd, F⟩ := c.d.def_ 49 (d := dm_CaseRows_made) rfl
    exact ⟨fd, F⟩
  d_is_whole := by
    obtain ⟨fd, F⟩ := c.d.def_ 0 (d := dd_is_whole) rfl
    exact ⟨_, fd, F, He.glo_ok X G (c.d.fact 0 (f := .glo "is_whole") rfl)⟩
  d_is_name := by
    obtain ⟨fd, F⟩ := c.d.def_ 1 (d := dd_is_name) rfl
    exact ⟨_, fd, F, He.glo_ok X G (c.d.fact 1 (f := .glo "is_name") rfl)⟩
  d_divisor := by
    obtain ⟨fd, F⟩ := c.d.def_ 2 (d := dd_divisor) rfl
    exact ⟨_, fd, F, He.glo_ok X G (c.d.fact 2 (f := .glo "divisor") rfl)⟩
  d_is_fraction := by
    obtain ⟨fd, F⟩ := c.d.def_ 3 (d := dd_is_fraction) rfl
    exact ⟨_, fd, F, He.glo_ok X G (c.d.fact 3 (f := .glo "is_fraction") rfl)⟩
  d_lowest := by
    obtain ⟨fd, F⟩ := c.d.def_ 4 (d := dd_lowest) rfl
    exact ⟨_, fd, F, He.glo_ok X G (c.d.fact 4 (f := .glo "lowest") rfl)⟩
  d_fraction := by
    obtain ⟨fd, F⟩ := c.d.def_ 5 (d := dd_fraction) rfl
    exact ⟨_, fd, F, He.glo_ok X G (c.d.fact 5 (f := .glo "fraction") rfl)⟩
  d_whole_in := by
    obtain ⟨fd, F⟩ := c.d.def_ 6 (d := dd_whole_in) rfl
    exact ⟨_, fd, F, He.glo_ok X G (c.d.fact 6 (f := .glo "whole_in") rfl)⟩
  d_fraction_in := by
    obtain ⟨fd, F⟩ := c.d.def_ 7 (d := dd_fraction_in) rfl
    exact ⟨_, fd, F, He.glo_ok X G (c.d.fact 7 (f := .glo "fraction_in") rfl)⟩
  d_price_in := by
    obtain ⟨fd, F⟩ := c.d.def_ 8 (d := dd_price_in) rfl
    exact ⟨_, fd, F, He.glo_ok X G (c.d.fact 8 (f := .glo "price_in") rfl)⟩
  d_read_case := by
    obtain ⟨fd, F⟩ := c.d.def_ 9 (d := dd_read_case) rfl
    exact ⟨_, fd, F, He.glo_ok X G (c.d.fact 9 (f := .glo "read_case") rfl)⟩
  d_is_price := by
    obtain ⟨fd, F⟩ := c.d.def_ 10 (d := dd_is_price) rfl
    exact ⟨_, fd, F, He.glo_ok X G (c.d.fact 10 (f := .glo "is_price") rfl)⟩
  d_is_letter := by
    obtain ⟨fd, F⟩ := c.d.def_ 11 (d := dd_is_letter) rfl
    exact ⟨_, fd, F, He.glo_ok X G (c.d.fact 11 (f := .glo "is_letter") rfl)⟩
  d_is_sign := by
    obtain ⟨fd, F⟩ := c.d.def_ 12 (d := dd_is_sign) rfl
    exact ⟨_, fd, F, He.glo_ok X G (c.d.fact 12 (f := .glo "is_sign") rfl)⟩
  d_are_signs := by
    obtain ⟨fd, F⟩ := c.d.def_ 13 (d := dd_are_signs) rfl
    exact ⟨_, fd, F, He.glo_ok X G (c.d.fact 13 (f := .glo "are_signs") rfl)⟩
  d_are_unlike_texts := by
    obtain ⟨fd, F⟩ := c.d.def_ 14 (d := dd_are_unlike_texts) rfl
    exact ⟨_, fd, F, He.glo_ok X G (c.d.fact 14 (f := .glo "are_unlike_texts") rfl)⟩
  d_look_at_tongue := by
    obtain ⟨fd, F⟩ := c.d.def_ 15 (d := dd_look_at_tongue) rfl
    exact ⟨_, fd, F, He.glo_ok X G (c.d.fact 15 (f := .glo "look_at_tongue") rfl)⟩
  d_is_want := by
    obtain ⟨fd, F⟩ := c.d.def_ 16 (d := dd_is_want) rfl
    exact ⟨_, fd, F, He.glo_ok X G (c.d.fact 16 (f := .glo "is_want") rfl)⟩
  d_look_at_wants := by
    obtain ⟨fd, F⟩ := c.d.def_ 17 (d := dd_look_at_wants) rfl
    exact ⟨_, fd, F, He.glo_ok X G (c.d.fact 17 (f := .glo "look_at_wants") rfl)⟩
  d_show_fraction := by
    obtain ⟨fd, F⟩ := c.d.def_ 18 (d := dd_show_fraction) rfl
    exact ⟨_, fd, F, He.glo_ok X G (c.d.fact 18 (f := .glo "show_fraction") rfl)⟩
  d_sign_row := by
    obtain ⟨fd, F⟩ := c.d.def_ 19 (d := dd_sign_row) rfl
    exact ⟨_, fd, F, He.glo_ok X G (c.d.fact 19 (f := .glo "sign_row") rfl)⟩
  d_write_case := by
    obtain ⟨fd, F⟩ := c.d.def_ 20 (d := dd_write_case) rfl
    exact ⟨_, fd, F, He.glo_ok X G (c.d.fact 20 (f := .glo "write_case") rfl)⟩
  d_law_pool := by
    obtain ⟨fd, F⟩ := c.d.def_ 21 (d := dd_law_pool) rfl
    exact ⟨_, fd, F, He.glo_ok X G (c.d.fact 21 (f := .glo "_law_pool") rfl)⟩
  d_law_take := by
    obtain ⟨fd, F⟩ := c.d.def_ 22 (d := dd_law_take) rfl
    exact ⟨_, fd, F, He.glo_ok X G (c.d.fact 22 (f := .glo "_law_take") rfl)⟩
  d_law_low := by
    obtain ⟨fd, F⟩ := c.d.def_ 23 (d := dd_law_low) rfl
    exact ⟨_, fd, F, He.glo_ok X G (c.d.fact 23 (f := .glo "_law_low") rfl)⟩
  d_law_price := by
    obtain ⟨fd, F⟩ := c.d.def_ 24 (d := dd_law_price) rfl
    exact ⟨_, fd, F, He.glo_ok X G (c.d.fact 24 (f := .glo "_law_price") rfl)⟩
  d_law_tongue := by
    obtain ⟨fd, F⟩ := c.d.def_ 25 (d := dd_law_tongue) rfl
    exact ⟨_, fd, F, He.glo_ok X G (c.d.fact 25 (f := .glo "_law_tongue") rfl)⟩
  d_law_name := by
    obtain ⟨fd, F⟩ := c.d.def_ 26 (d := dd_law_name) rfl
    exact ⟨_, fd, F, He.glo_ok X G (c.d.fact 26 (f := .glo "_law_name") rfl)⟩
  d_law_wants := by
    obtain ⟨fd, F⟩ := c.d.def_ 27 (d := dd_law_wants) rfl
    exact ⟨_, fd, F, He.glo_ok X G (c.d.fact 27 (f := .glo "_law_wants") rfl)⟩
  d_law_texts := by
    obtain ⟨fd, F⟩ := c.d.def_ 28 (d := dd_law_texts) rfl
    exact ⟨_, fd, F, He.glo_ok X G (c.d.fact 28 (f := .glo "_law_texts") rfl)⟩
  d_law_case := by
    obtain ⟨fd, F⟩ := c.d.def_ 29 (d := dd_law_case) rfl
    exact ⟨_, fd, F, He.glo_ok X G (c.d.fact 29 (f := .glo "_law_case") rfl)⟩
  d_law_same := by
    obtain ⟨fd, F⟩ := c.d.def_ 30 (d := dd_law_same) rfl
    exact ⟨_, fd, F, He.glo_ok X G (c.d.fact 30 (f := .glo "_law_same") rfl)⟩
  d_law_copy := by
    obtain ⟨fd, F⟩ := c.d.def_ 31 (d := dd_law_copy) rfl
    exact ⟨_, fd, F, He.glo_ok X G (c.d.fact 31 (f := .glo "_law_copy") rfl)⟩
  d_law_other := by
    obtain ⟨fd, F⟩ := c.d.def_ 32 (d := dd_law_other) rfl
    exact ⟨_, fd, F, He.glo_ok X G (c.d.fact 32 (f := .glo "_law_other") rfl)⟩
  d_law_is_spoilt := by
    obtain ⟨fd, F⟩ := c.d.def_ 33 (d := dd_law_is_spoilt) rfl
    exact ⟨_, fd, F, He.glo_ok X G (c.d.fact 33 (f := .glo "_law_is_spoilt") rfl)⟩
  d_law_called := by
    obtain ⟨fd, F⟩ := c.d.def_ 34 (d := dd_law_called) rfl
    exact ⟨_, fd, F, He.glo_ok X G (c.d.fact 34 (f := .glo "_law_called") rfl)⟩
  d_law := by
    obtain ⟨fd, F⟩ := c.d.def_ 35 (d := dd_law) rfl
    exact ⟨_, fd, F, He.glo_ok X G (c.d.fact 35 (f := .glo "law") rfl)⟩
  b_abs := He.free_ok X G (c.d.fact 36 (f := .free "abs") rfl)
  b_all := He.free_ok X G (c.d.fact 37 (f := .free "all") rfl)
  b_bool := He.free_ok X G (c.d.fact 38 (f := .free "bool") rfl)
  b_enumerate := He.free_ok X G (c.d.fact 39 (f := .free "enumerate") rfl)
  b_int := He.free_ok X G (c.d.fact 40 (f := .free "int") rfl)
  b_isinstance := He.free_ok X G (c.d.fact 41 (f := .free "isinstance") rfl)
  b_len := He.free_ok X G (c.d.fact 42 (f := .free "len") rfl)
  b_list := He.free_ok X G (c.d.fact 43 (f := .free "list") rfl)
  b_max := He.free_ok X G (c.d.fact 44 (f := .free "max") rfl)
  b_min := He.free_ok X G (c.d.fact 45 (f := .free "min") rfl)
  b_range := He.free_ok X G (c.d.fact 46 (f := .free "range") rfl)
  b_set := He.free_ok X G (c.d.fact 47 (f := .free "set") rfl)
  b_str := He.free_ok X G (c.d.fact 48 (f := .free "str") rfl)
  b_tuple := He.free_ok X G (c.d.fact 49 (f := .free "tuple") rfl)
  c_LETTERS_numbers := by
    obtain ⟨t, e⟩ := He.str_ok X G (c.d.fact 50 (f := .str "LETTERS_numbers" "abcdefghijklmnopqrstuvwxyz") rfl)
    exact ⟨_, e, t, rfl⟩
  c_LONGEST_numbers := by
    obtain ⟨t, e⟩ := He.int_ok X G (c.d.fact 51 (f := .int "LONGEST_numbers" 8) rfl)
    exact ⟨_, e, t, rfl⟩
  c_FIGURES := by
    obtain ⟨t, e⟩ := He.str_ok X G (c.d.fact 52 (f := .str "FIGURES" "0123456789") rfl)
    exact ⟨_, e, t, rfl⟩
  c_LETTERS_casereader := by
    obtain ⟨t, e⟩ := He.str_ok X G (c.d.fact 53 (f := .str "LETTERS_casereader" "abcdefghijklmnopqrstuvwxyz") rfl)
    exact ⟨_, e, t, rfl⟩
  c_PRICE_FIGURES := by
    obtain ⟨t, e⟩ := He.int_ok X G (c.d.fact 54 (f := .int "PRICE_FIGURES" 9) rfl)
    exact ⟨_, e, t, rfl⟩
  c_COUNT_FIGURES := by
    obtain ⟨t, e⟩ := He.int_ok X G (c.d.fact 55 (f := .int "COUNT_FIGURES" 10) rfl)
    exact ⟨_, e, t, rfl⟩
  c_FEWEST_SIGNS_casereader := by
    obtain ⟨t, e⟩ := He.int_ok X G (c.d.fact 56 (f := .int "FEWEST_SIGNS_casereader" 2) rfl)
    exact ⟨_, e, t, rfl⟩
  c_MOST_SIGNS_casereader := by
    obtain ⟨t, e⟩ := He.int_ok X G (c.d.fact 57 (f := .int "MOST_SIGNS_casereader" 6) rfl)
    exact ⟨_, e, t, rfl⟩
  c_GREATEST_LONGEST := by
    obtain ⟨t, e⟩ := He.int_ok X G (c.d.fact 58 (f := .int "GREATEST_LONGEST" 8) rfl)
    exact ⟨_, e, t, rfl⟩
  c_MOST_THINGS_casereader := by
    obtain ⟨t, e⟩ := He.int_ok X G (c.d.fact 59 (f := .int "MOST_THINGS_casereader" 20) rfl)
    exact ⟨_, e, t, rfl⟩
  c_GREATEST_COUNT_casereader := by
    obtain ⟨t, e⟩ := He.int_ok X G (c.d.fact 60 (f := .int "GREATEST_COUNT_casereader" 1000000000) rfl)
    exact ⟨_, e, t, rfl⟩
  c_LETTERS_tongues := by
    obtain ⟨t, e⟩ := He.str_ok X G (c.d.fact 61 (f := .str "LETTERS_tongues" "abcdefghijklmnopqrstuvwxyz") rfl)
    exact ⟨_, e, t, rfl⟩
  c_FEWEST_SIGNS_tongues := by
    obtain ⟨t, e⟩ := He.int_ok X G (c.d.fact 62 (f := .int "FEWEST_SIGNS_tongues" 2) rfl)
    exact ⟨_, e, t, rfl⟩
  c_MOST_SIGNS_tongues := by
    obtain ⟨t, e⟩ := He.int_ok X G (c.d.fact 63 (f := .int "MOST_SIGNS_tongues" 6) rfl)
    exact ⟨_, e, t, rfl⟩
  c_LONGEST_tongues := by
    obtain ⟨t, e⟩ := He.int_ok X G (c.d.fact 64 (f := .int "LONGEST_tongues" 8) rfl)
    exact ⟨_, e, t, rfl⟩
  c_MOST_THINGS_wants := by
    obtain ⟨t, e⟩ := He.int_ok X G (c.d.fact 65 (f := .int "MOST_THINGS_wants" 20) rfl)
    exact ⟨_, e, t, rfl⟩
  c_GREATEST_COUNT_wants := by
    obtain ⟨t, e⟩ := He.int_ok X G (c.d.fact 66 (f := .int "GREATEST_COUNT_wants" 1000000000) rfl)
    exact ⟨_, e, t, rfl⟩
  k_DearError := He.glo_ok X G (c.d.fact 67 (f := .glo "DearError") rfl)
  k_NoNumber := He.glo_ok X G (c.d.fact 68 (f := .glo "NoNumber") rfl)
  k_NoTongue := He.glo_ok X G (c.d.fact 69 (f := .glo "NoTongue") rfl)
  k_NoWants := He.glo_ok X G (c.d.fact 70 (f := .glo "NoWants") rfl)
  k_NoText := He.glo_ok X G (c.d.fact 71 (f := .glo "NoText") rfl)
  k_CaseRows := He.glo_ok X G (c.d.fact 72 (f := .glo "CaseRows") rfl)
  l_CaseRows := He.cls_ok (c.d.fact 73 (f := .cls "CaseRows") rfl)
  mk_CaseRows := He.mkr_ok (c.d.fact 74 (f := .mkr "CaseRows") rfl)
  n_CaseRows_signs := He.noat_ok (c.d.fact 75 (f := .noat "CaseRows" "signs") rfl)
  n_CaseRows_letters := He.noat_ok (c.d.fact 76 (f := .noat "CaseRows" "letters") rfl)
  n_CaseRows_firsts := He.noat_ok (c.d.fact 77 (f := .noat "CaseRows" "firsts") rfl)
  n_CaseRows_pairs := He.noat_ok (c.d.fact 78 (f := .noat "CaseRows" "pairs") rfl)
  n_CaseRows_longest := He.noat_ok (c.d.fact 79 (f := .noat "CaseRows" "longest") rfl)
  n_CaseRows_wants := He.noat_ok (c.d.fact 80 (f := .noat "CaseRows" "wants") rfl)
  n_CaseRows_words := He.noat_ok (c.d.fact 81 (f := .noat "CaseRows" "words") rfl)
  m_CaseRows_takes_sign := He.meth_ok (c.d.fact 82 (f := .meth "CaseRows" "takes_sign") rfl)
  m_CaseRows_is_open := He.meth_ok (c.d.fact 83 (f := .meth "CaseRows" "is_open") rfl)
  m_CaseRows_takes_first := He.meth_ok (c.d.fact 84 (f := .meth "CaseRows" "takes_first") rfl)
  m_CaseRows_takes_pair := He.meth_ok (c.d.fact 85 (f := .meth "CaseRows" "takes_pair") rfl)
  m_CaseRows_takes_longest := He.meth_ok (c.d.fact 86 (f := .meth "CaseRows" "takes_longest") rfl)
  m_CaseRows_takes_thing := He.meth_ok (c.d.fact 87 (f := .meth "CaseRows" "takes_thing") rfl)
  m_CaseRows_takes_word := He.meth_ok (c.d.fact 88 (f := .meth "CaseRows" "takes_word") rfl)
  m_CaseRows_takes := He.meth_ok (c.d.fact 89 (f := .meth "CaseRows" "takes") rfl)
  m_CaseRows_lacks := He.meth_ok (c.d.fact 90 (f := .meth "CaseRows" "lacks") rfl)
  m_CaseRows_made := He.meth_ok (c.d.fact 91 (f := .meth "CaseRows" "made") rfl)
theorem law_starts {K : PySem.W.Frag} : ∀ (H : Hp) (a : Addr) (ns : List Int), ns.length ≤ 63 → Only H → SqL K H a (ns.map V.int) → sp_law K [.ref a] H (fun v _ => v = .bl true) fun _ _ _ => False := fun H a ns hl _ hS => ⟨a, ns, rfl, hS, hl, fun _ => rfl⟩
end My
open PySem PySem.W PySem.Calls PyProof.Rows
set_option maxHeartbeats 0 in
theorem PySem.Challenge.cw_dearsigns_k64_whole_cases_read_back_holds : PySem.Challenge.rw_dearsigns_k64_whole_cases_read_back.Holds := by
  w_on; o_law
  refine HandSHeadRun.head_any (r := OpenLaw.row PySem.Challenge.rw_dearsigns_k64_whole_cases_read_back) (q := view (OpenLaw.row PySem.Challenge.rw_dearsigns_k64_whole_cases_read_back).prog [65]) (H := My.hk) (ob := My.ob) (M := 12000) (loose := My.loose) (d := HandSHeadRun.topDef (OpenLaw.row PySem.Challenge.rw_dearsigns_k64_whole_cases_read_back).prog 65) (kwd := []) My.ob_eq
    (by kernel_rfl) (fun s => by kernel_rfl) My.run (by kernel_rfl) (by kernel_rfl) (by kernel_rfl) (by rfl) (by first | assumption | decide +kernel) (by decide +kernel) ⟨rfl, rfl, rfl, rfl, rfl, by decide +kernel⟩ ?hw ?hc
  case hw => w_witness2
  case hc =>
    refine L2.walk_ofE (l := PySem.Challenge.rw_dearsigns_k64_whole_cases_read_back) (n := 63) (k := 10) (x := "_law_script") (CX := L2.CX0) rfl (by decide) (by kernel_rfl) ⟨rfl, by decide, by decide⟩ ?F (fun _ _ _ _ z => z)
    intro w mg fa h Y G hmg0
    obtain ⟨K, KX, c⟩ := Y
    have hmg : mg ("law" : PySem.Str) = some (.ref fa) := by
      have e : (HandSHeadRun.topDef (OpenLaw.row PySem.Challenge.rw_dearsigns_k64_whole_cases_read_back).prog 65).name = ("law" : PySem.Str) := by kernel_rfl
      rw [← e]
      exact hmg0
    have T : My.Txt K mg := My.facts KX G c
    obtain ⟨fd, hb, hF⟩ := My.ok_law (P := (PySem.Challenge.rw_dearsigns_k64_whole_cases_read_back).prog) (w := w) T hmg
    exact ⟨K, fd, My.sp_law K, KX, hb, My.law_starts, fun base _ _ => hF base⟩

