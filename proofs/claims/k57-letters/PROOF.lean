import PyProof.Rows.All
import Wide.All
import OpenK.AllK
import Wide.FinOn
import HandS.ForMost
import HandS.Wide
import HandS.FStr
import HandS.IsInst
import HandS.Defaults
import HandS.Codes
import HandS.TupAny
import HandS.Exc
import HandS.WordsExc
import HandS.Steps
import HandS.Walk
import HandS.Evl
import HandS.Head0
import HandS.Head1
import HandS.Head2
import HandS.HeadEnd
import HandS.HeadHook1
import HandS.HeadHook2
import KE.KIsAll
import HandS.ExcInit
import HandS.ExcIs
import HandS.ExcField
import HandS.ExcOwn
import HandS.Small
import HandS.ClsMeth
import HandS.CallSlots
import HandS.ExcValue
import HandS.SortInts
import HandS.Conv
import HandS.Strs
import PyProof.Rows.SetFrom
import HandS.Style
import PySem.Challenge.RW_dearsigns_k57_letters
set_option Elab.async false
set_option linter.all false
set_option maxRecDepth 100000
set_option maxHeartbeats 4000000
/-! Zk: own reading steps over the hand layer. -/
namespace Z
open PySem PySem.Spec PyProof.Rows L2

/-! ### calls of defs, packed -/
structure Cf (P : Program) (w : World) (K : PySem.W.Frag) (mg : Str → Option Value) (base : Heap) (CX : CXT) (k : Nat) (x : Str) (sp : Sp) (dvs : List V) : Prop where
  ex : ∃ (f : Addr) (fd : FuncData) (ps : List Str) (ds : List Value), FnOk P w K mg base CX k f fd ps sp ∧ mg x = some (.ref f) ∧ PySem.W.keepIn K (.ref f) = true ∧ Binds K fd ps ds ∧ Vals dvs ds
abbrev C0 (P : Program) (w : World) (K : PySem.W.Frag) (mg : Str → Option Value) (base : Heap) (k : Nat) (x : Str) (sp : Sp) : Prop := Cf P w K mg base CX0 k x sp []
abbrev CE (P : Program) (w : World) (K : PySem.W.Frag) (mg : Str → Option Value) (base : Heap) (k : Nat) (x : Str) (sp : Sp) : Prop := Cf P w K mg base (L2.CX P w) k x sp []
theorem Cf.mono {P : Program} {w : World} {K : PySem.W.Frag} {mg : Str → Option Value} {base : Heap} {CX : CXT} {j k : Nat} {x : Str} {sp : Sp} {dvs : List V} (c : Cf P w K mg base CX j x sp dvs) (h : j ≤ k) : Cf P w K mg base CX k x sp dvs := by
  obtain ⟨f, fd, ps, ds, F, r⟩ := c.ex
  exact ⟨f, fd, ps, ds, F.mono h, r⟩
section
variable {X : Cx} {k j : Nat} {x : Str} {sp : Sp} {dvs : List V} {p pos : Pos} {e : Expr} {es : List Expr} {t : TA}
theorem pe_c0 (c : Cf X.prog X.w X.K X.mg X.base CX0 k x sp dvs) (hr : Room j X.A) (hk : k ≤ j) (hg : Gl X x) (ha : PA X (e :: es) t)
    (hdb : (x == ("__debug__" : Str)) = false := by decide) (he : starEach (e :: es) X.env = (false, eval e X.env) :: starEach es X.env := by rfl) (hpl : (backTo pos (starEach es X.env)).any (·.1) = false := by rfl) :
    PE X (.Call (.Name x p) (e :: es) [] pos) (tCall sp dvs E0 t) := by
  obtain ⟨f, fd, ps, ds, F, hm, kp, b, d⟩ := c.ex
  exact pe_call F (hr.mono hk) hg hm kp b d pass0 ha hdb he hpl
end
/-- a def as it stands behind the top -/
structure At (K : PySem.W.Frag) (mg : Str → Option Value) (g x : Str) (st : Stmt) (dvs : List V) : Prop where
  ex : ∃ (f : Addr) (fd : FuncData), FunD K x x (defArgs st) (defBody st) (defScope st) dvs [] f fd ∧ mg g = some (.ref f)
section
variable {P : Program} {w : World} {K : PySem.W.Frag} {mg : Str → Option Value} {base : Heap} {g x : Str} {st : Stmt} {dvs : List V}
/-- binding where nothing has a default; h is «fun _ _ _ _ _ _ us hl => match us, hl with | [_, _], _ => rfl» -/
theorem bd0 {ps : List Str} (h : ∀ (kV doc pm : Value) (an : Option Addr) (cdv ct : Value) (us : List Value), us.length = ps.length → bindArgs (PySem.W.fnOf x x (defArgs st) (defBody st) (defScope st) .none kV doc pm an cdv ct) ⟨us, []⟩ = pure (ps.zip us)) :
    ∀ (f : Addr) (fd : FuncData), FunD K x x (defArgs st) (defBody st) (defScope st) [] [] f fd → Binds K fd ps [] := fun f fd F => by
  obtain ⟨oc, od, dV, kV, doc, pm, an, cdv, ct, osl, rfl, _, _, hD, _⟩ := F.ex
  rcases hD with ⟨_, rfl⟩ | ⟨n, _⟩
  · exact .all (h kV doc pm an cdv ct)
  · exact absurd rfl n
/-- all given, some have defaults; h is «fun _ _ _ _ _ _ _ us its hu hi => match us, its, hu, hi with | [_, _], [_], _, _ => ⟨_, rfl, rfl⟩» -/
theorem bd1 {ps : List Str} (hd : dvs ≠ []) (h : ∀ (T : Addr) (kV doc pm : Value) (an : Option Addr) (cdv ct : Value) (us its : List Value), us.length = ps.length → its.length = dvs.length →
      ∃ k, bindArgs (PySem.W.fnOf x x (defArgs st) (defBody st) (defScope st) (.ref T) kV doc pm an cdv ct) ⟨us, []⟩ = seqItems? (.ref T) >>= k ∧ k (some its.toArray) = pure (ps.zip (us ++ its.drop dvs.length))) :
    ∀ (f : Addr) (fd : FuncData), FunD K x x (defArgs st) (defBody st) (defScope st) dvs [] f fd → Binds K fd ps [] := fun f fd F => by
  obtain ⟨ds, v, b⟩ := F.binds1 ps.length dvs.length hd (by omega) h
  rw [List.drop_length] at v
  cases v
  exact b
/-- THE RULE: h is «fun _ _ _ _ _ _ us hl => match us, hl with | [_, _], _ => rfl» -/
theorem At.c0 {N ps : List Str} {k : Nat} {sp : Sp} (F : At K mg g x st dvs) (S : FnScope N ps (defScope st)) (len : ∀ vs H Q E, sp vs H Q E → vs.length = ps.length)
    (b : ∀ (f : Addr) (fd : FuncData), FunD K x x (defArgs st) (defBody st) (defScope st) dvs [] f fd → Binds K fd ps [])
    (hbody : ∀ (f : Addr) (cdv : Value) (A : Around) (outer : List Env) (s : Shared) (H : Hp) (vs : List V) (Q : VK) (E : XK), Room k (A.deeper (envOfC x (defScope st) s.heap.objs.size f cdv)) → sp vs H Q E →
      ∃ t, PSs (cxOf CX0 P w K mg base N x (defScope st) f cdv A outer s H E).nox (defBody st) t ∧ t { nx := fun _ H' => Q .non H', rt := Q } (start N vs) H) : C0 P w K mg base (k + 1) g sp := by
  obtain ⟨f, fd, F, hm⟩ := F.ex
  have G : FnOk P w K mg base CX0 (k + 1) f fd ps sp := F.ok S len fun cdv A outer s H vs Q E hr h => by
    obtain ⟨t, h1, h2⟩ := hbody f cdv A outer s H vs Q E hr h
    exact ⟨t, h1.nox, h2⟩
  exact ⟨f, fd, ps, [], G, hm, F.kp, b f fd F, .nil⟩
theorem At.ce {N ps : List Str} {k : Nat} {sp : Sp} (F : At K mg g x st dvs) (S : FnScope N ps (defScope st)) (len : ∀ vs H Q E, sp vs H Q E → vs.length = ps.length)
    (b : ∀ (f : Addr) (fd : FuncData), FunD K x x (defArgs st) (defBody st) (defScope st) dvs [] f fd → Binds K fd ps [])
    (hbody : ∀ (f : Addr) (cdv : Value) (A : Around) (outer : List Env) (s : Shared) (H : Hp) (vs : List V) (Q : VK) (E : XK), Room k (A.deeper (envOfC x (defScope st) s.heap.objs.size f cdv)) → sp vs H Q E →
      ∃ t, PSs (cxOf (L2.CX P w) P w K mg base N x (defScope st) f cdv A outer s H E) (defBody st) t ∧ t { nx := fun _ H' => Q .non H', rt := Q } (start N vs) H) : CE P w K mg base (k + 1) g sp := by
  obtain ⟨f, fd, F, hm⟩ := F.ex
  have G : FnOk P w K mg base (L2.CX P w) (k + 1) f fd ps sp := F.ok S len fun cdv A outer s H vs Q E hr h => hbody f cdv A outer s H vs Q E hr h
  exact ⟨f, fd, ps, [], G, hm, F.kp, b f fd F, .nil⟩
end

section
variable {P : Program} {w : World} {K : PySem.W.Frag} {mg : Str → Option Value} {g x : Str} {st : Stmt} {dvs : List V}
/-- the law itself -/
theorem At.law {N : List Str} {p : Str} {k : Nat} {sp : Sp} {fa : Addr} (F : At K mg g x st []) (hmg : mg g = some (.ref fa)) (S : FnScope N [p] (defScope st)) (len : ∀ vs H Q E, sp vs H Q E → vs.length = 1)
    (b : ∀ (kV doc pm : Value) (an : Option Addr) (cdv ct : Value) (u : Value), bindArgs (PySem.W.fnOf x x (defArgs st) (defBody st) (defScope st) .none kV doc pm an cdv ct) ⟨[u], []⟩ = pure [(p, u)])
    (hbody : ∀ (base : Heap) (f : Addr) (cdv : Value) (A : Around) (outer : List Env) (s : Shared) (H : Hp) (vs : List V) (Q : VK) (E : XK), Room k (A.deeper (envOfC x (defScope st) s.heap.objs.size f cdv)) → sp vs H Q E →
      ∃ t, PSs (cxOf CX0 P w K mg base N x (defScope st) f cdv A outer s H E).nox (defBody st) t ∧ t { nx := fun _ H' => Q .non H', rt := Q } (start N vs) H) :
    ∃ fd : FuncData, (∀ (s : Shared) (u : Value), BindsTo s fd ⟨[u], []⟩ [(p, u)]) ∧ ∀ base : Heap, FnOk P w K mg base CX0 (k + 1) fa fd [p] sp := by
  obtain ⟨f, fd, F, hm⟩ := F.ex
  have e : fa = f := by
    have h := hmg.symm.trans hm
    injection h with h
    injection h
  subst e
  refine ⟨fd, ?_, fun base => F.ok S len fun cdv A outer s H vs Q E hr h => ?_⟩
  · obtain ⟨oc, od, dV, kV, doc, pm, an, cdv, ct, osl, rfl, _, _, hD, _⟩ := F.ex
    rcases hD with ⟨_, rfl⟩ | ⟨n, _⟩
    · exact fun s u => .of_eq (b kV doc pm an cdv ct u)
    · exact absurd rfl n
  · obtain ⟨t, h1, h2⟩ := hbody base fa cdv A outer s H vs Q E hr h
    exact ⟨t, h1.nox, h2⟩
end

/-! ### operations of several kinds -/
section
variable {X : Cx}
def rAddS : R2 := fun x y H Q => ∃ i j, x = .str i ∧ y = .str j ∧ i.length + j.length ≤ sizeLine ∧ Q (.str (i ++ j)) H
def rAddI : R2 := rI0 fun i j => .int (i + j)
def rAddP (K : PySem.W.Frag) : R2 := fun x y H Q => rAddI x y H Q ∨ rAddS x y H Q ∨ rCat x y H Q ∨ rCatA K x y H Q
theorem op_addP : OpR X (binaryOp .Add) (rAddP X.K) := OpR.or op_add (OpR.or op_add_str (OpR.or op_cat op_catA))
def CMulP (i j : Int) : Prop := CMul i j ∨ CMulW i j
theorem op_mulI : OpR X (binaryOp .Mult) (rI CMulP fun i j => .int (i * j)) := opI fun _ _ _ _ _ _ _ hc q => mul_int q (hc.elim CMul.ok CMulW.ok)
def rMulI : R2 := rI CMulP fun i j => .int (i * j)
def rMulP : R2 := fun x y H Q => rMulI x y H Q ∨ rRep x y H Q
theorem op_mulP : OpR X (binaryOp .Mult) rMulP := OpR.or op_mulI op_rep
def CDivP (i j : Int) : Prop := CDiv i j ∨ CDivW i j
theorem op_fdivP : OpR X (binaryOp .FloorDiv) (rI CDivP fun i j => .int (i / j)) := opI fun i j t u s Q E hc q => by
  have h1 : (0 : Int) < j := by rcases hc with h | h <;> exact h.1
  refine floordiv_int (by omega) (by rw [Int.fdiv_eq_ediv_of_nonneg i (by omega)]; exact q) (.inl ?_)
  rcases hc with h | h
  · have h2 := h.2
    exact PyProof.noPylong_small (by omega)
  · exact PyProof.noPylong_of_log2 h.2
def rDiv : R2 := rI CDivP fun i j => .int (i / j)
def rMod : R2 := rI (fun _ j => 0 < j) fun i j => .int (i % j)
def rSub : R2 := rI0 fun i j => .int (i - j)
def rPow : R2 := rI CPow fun i j => .int (i ^ j.toNat)
theorem op_div : OpR X (binaryOp .FloorDiv) rDiv := op_fdivP
theorem op_modP : OpR X (binaryOp .Mod) rMod := op_mod
theorem op_subI : OpR X (binaryOp .Sub) rSub := op_sub
theorem op_powI : OpR X (binaryOp .Pow) rPow := op_pow
def rEqP (K : PySem.W.Frag) : R2 := fun x y H Q => rEq x y H Q ∨ rEqD K x y H Q
def rNeP (K : PySem.W.Frag) : R2 := fun x y H Q => rNe x y H Q ∨ rNeD K x y H Q
theorem op_eqP (hu : X.A.units + 64 < cLine) : OpR X (compareOp .Eq) (rEqP X.K) := OpR.or op_eq (op_eqD hu)
theorem op_neP (hu : X.A.units + 64 < cLine) : OpR X (compareOp .NotEq) (rNeP X.K) := OpR.or op_ne (op_neD hu)
def rLtI : R2 := rI0 fun i j => .bl (decide (i < j))
def rLeI : R2 := rI0 fun i j => .bl (decide (i ≤ j))
def rGtI : R2 := rI0 fun i j => .bl (decide (j < i))
def rGeI : R2 := rI0 fun i j => .bl (decide (j ≤ i))
theorem op_ltI : OpR X (compareOp .Lt) rLtI := op_lt
theorem op_leI : OpR X (compareOp .LtE) rLeI := op_le
theorem op_gtI : OpR X (compareOp .Gt) rGtI := op_gt
theorem op_geI : OpR X (compareOp .GtE) rGeI := op_ge
def rIs : R2 := fun x y H Q => y = .non ∧ Q (.bl (decide (x = .non))) H
def rIsNot : R2 := fun x y H Q => y = .non ∧ Q (.bl (!decide (x = .non))) H
theorem op_isP : OpR X (compareOp .Is) rIs := op_isN
theorem op_isNotP : OpR X (compareOp .IsNot) rIsNot := op_notN
/-- one sign in a text; a flat thing in a list or tuple of flat things -/
def rInT (neg : Bool) : R2 := fun x y H Q => ∃ (c : Nat) (z : Str), x = .str ⟨#[c]⟩ ∧ y = .str z ∧ Q (.bl (if neg then !decide (c ∈ z.cps.toList) else decide (c ∈ z.cps.toList))) H
def rInP (K : PySem.W.Frag) (neg : Bool) : R2 := fun x y H Q => rInT neg x y H Q ∨ rIn K neg x y H Q
theorem op_inP : OpR X (compareOp .In) (rInP X.K false) := OpR.or op_in_sign op_in_seq
theorem op_notInP : OpR X (compareOp .NotIn) (rInP X.K true) := OpR.or op_notIn_sign op_notIn_seq
def rSlP (K : PySem.W.Frag) : V → Option Int → Option Int → Hp → VK → Prop := fun x lo hi H Q => rSlL K x lo hi H Q ∨ rSlS x lo hi H Q ∨ rSlA K x lo hi H Q
theorem sl_any : SlR X (rSlP X.K) := sl_list.or (sl_str.or sl_tupA)
/-- calls of builtins -/
def cLen (K : PySem.W.Frag) : List V → Hp → VK → Prop := fun xs H Q => ∃ x n, xs = [x] ∧ LenV K x H n ∧ Q (.int n) H
theorem call_lenP : CallR X (.builtin "len") (cLen X.K) := call_len
def cAbs : List V → Hp → VK → Prop := fun xs H Q => ∃ i, xs = [.int i] ∧ Q (.int (if i < 0 then -i else i)) H
theorem call_absP : CallR X (.builtin "abs") cAbs := call_abs
def cMax : List V → Hp → VK → Prop := fun xs H Q => ∃ i j, xs = [.int i, .int j] ∧ Q (.int (if j > i then j else i)) H
theorem call_maxP (hc : X.calm = true) : CallR X (.builtin "max") cMax := call_max2 hc
def cMin : List V → Hp → VK → Prop := fun xs H Q => ∃ i j, xs = [.int i, .int j] ∧ Q (.int (if j < i then j else i)) H
theorem call_minP (hc : X.calm = true) : CallR X (.builtin "min") cMin := call_min2 hc
def cStr : List V → Hp → VK → Prop := fun xs H Q => ∃ i, xs = [.int i] ∧ i.natAbs.log2 < 1920 ∧ Q (.str (toString i)) H
theorem call_strP : CallR X (.type "str") cStr := call_str_int
def cInt : List V → Hp → VK → Prop := fun xs H Q => ∃ a n, xs = [.str a] ∧ PySem.intText? a = some n ∧ a.length ≤ 640 ∧ Q (.int n) H
theorem call_intP : CallR X (.type "int") cInt := call_int_str
def cList (K : PySem.W.Frag) : List V → Hp → VK → Prop := fun xs H Q => ∃ p ys, xs = [.ref p] ∧ (SqL K H p ys ∨ SqT K H p ys) ∧ ∀ l, H l = none → Q (.ref l) (upd H l (.lst ys))
theorem call_listP : CallR X (.type "list") (cList X.K) := call_list_of
def mSplit : V → List V → Hp → VK → Prop := fun x xs H Q => ∃ a b, x = .str a ∧ xs = [.str b] ∧ (b.length == 0) = false ∧ a.length + 2 ≤ sizeLine ∧ rNewStrs (Txt.split a b) H Q
theorem mt_splitP : MtR X "str.split" mSplit := mt_split
def mJoin (K : PySem.W.Frag) : V → List V → Hp → VK → Prop := fun x xs H Q => ∃ a p, ∃ ys : List Str, x = .str a ∧ xs = [.ref p] ∧ (SqL K H p (ys.map V.str) ∨ SqT K H p (ys.map V.str)) ∧ (ys.map (·.length)).sum + ys.length * a.length ≤ 16777216 ∧ Q (.str (Txt.join a ys)) H
end

/-! the written part's name kept: K in place of X.K (a block's context is another one) -/
section
variable {X : Cx}
theorem k_addP (K : PySem.W.Frag) (hK : X.K = K := by rfl) : OpR X (binaryOp .Add) (rAddP K) := hK ▸ op_addP
theorem k_eqP (K : PySem.W.Frag) (hu : X.A.units + 64 < cLine) (hK : X.K = K := by rfl) : OpR X (compareOp .Eq) (rEqP K) := hK ▸ op_eqP hu
theorem k_neP (K : PySem.W.Frag) (hu : X.A.units + 64 < cLine) (hK : X.K = K := by rfl) : OpR X (compareOp .NotEq) (rNeP K) := hK ▸ op_neP hu
theorem k_inP (K : PySem.W.Frag) (hK : X.K = K := by rfl) : OpR X (compareOp .In) (rInP K false) := hK ▸ op_inP
theorem k_notInP (K : PySem.W.Frag) (hK : X.K = K := by rfl) : OpR X (compareOp .NotIn) (rInP K true) := hK ▸ op_notInP
theorem k_ix (K : PySem.W.Frag) (hK : X.K = K := by rfl) : IxR X (rIx K) := hK ▸ ix_seq
theorem k_sl (K : PySem.W.Frag) (hK : X.K = K := by rfl) : SlR X (rSlP K) := hK ▸ sl_any
theorem k_len (K : PySem.W.Frag) (hK : X.K = K := by rfl) : CallR X (.builtin "len") (cLen K) := hK ▸ call_lenP
theorem k_isi (K : PySem.W.Frag) (hK : X.K = K := by rfl) : CallR X (.builtin "isinstance") (rIsi K) := hK ▸ call_isi
theorem k_isiT (K : PySem.W.Frag) (hK : X.K = K := by rfl) : CallR X (.builtin "isinstance") (rIsiT K) := hK ▸ call_isiT
theorem k_all (K : PySem.W.Frag) (hc : X.calm = true) (hK : X.K = K := by rfl) : CallR X (.builtin "all") (rAll K) := hK ▸ cr_all hc
theorem k_any (K : PySem.W.Frag) (hc : X.calm = true) (hK : X.K = K := by rfl) : CallR X (.builtin "any") (rAny K) := hK ▸ cr_any hc
theorem k_list (K : PySem.W.Frag) (hK : X.K = K := by rfl) : CallR X (.type "list") (cList K) := hK ▸ call_listP
theorem k_join (K : PySem.W.Frag) (hK : X.K = K := by rfl) : MtR X "str.join" (mJoin K) := hK ▸ mt_join
variable {o e : Expr} {es : List Expr} {to te : TE} {t : TA} {name : Str} {id : String} {T : String} {apos cpos pos : Pos}
theorem k_bm0 (K : PySem.W.Frag) {r : V → List V → Hp → VK → Prop} (pa : PlainAttrs T) (slot : Slot T name id) (hty : typeOf (.builtin id) = pure (.type "method_descriptor")) (hm : MtR X id r) (ho : PE X o to)
    (hbase : attributeBase o name X.env (eval o X.env) = eval o X.env := by rfl) (hline : (apos.endLine == cpos.line) = true := by rfl) (hK : X.K = K := by rfl) : PE X (.Call (.Attribute o name apos) [] [] cpos) (tBM0 K T r to) := hK ▸ pe_bm0 pa slot hty hm ho hbase hline
theorem k_bm (K : PySem.W.Frag) {r : V → List V → Hp → VK → Prop} (pa : PlainAttrs T) (slot : Slot T name id) (hty : typeOf (.builtin id) = pure (.type "method_descriptor")) (hm : MtR X id r) (ho : PE X o to) (ha : PA X (e :: es) t)
    (hbase : attributeBase o name X.env (eval o X.env) = eval o X.env := by rfl)
    (hfew : ((backTo cpos (starEach (e :: es) X.env)).all (fun x => !x.1) && (backToKw cpos (keywordEach [] X.env)).all (fun x => x.1.isSome)
      && decide ((e :: es).length + ([] : List Keyword).length + (if ([] : List Keyword).isEmpty then 0 else 1) < 30)) = true := by rfl)
    (hline : (apos.endLine == cpos.line) = true := by rfl) (hs : starEach (e :: es) X.env = (false, eval e X.env) :: starEach es X.env := by rfl) (hplain : (backTo cpos (starEach es X.env)).any (·.1) = false := by rfl) (hK : X.K = K := by rfl) :
    PE X (.Call (.Attribute o name apos) (e :: es) [] cpos) (tBM K T r to t) := hK ▸ pe_bm pa slot hty hm ho ha hbase hfew hline hs hplain
theorem k_tup (K : PySem.W.Frag) {es : List Expr} {k : Nat} {t : TGs} {n : Nat} (hc : X.calm = true) (h : PGs X es t)
    (hn : (assignEach es X.env).length = n := by rfl) (hst : (assignEach es X.env).findIdx? (·.1) = none := by rfl) (hK : X.K = K := by rfl) : PG X (.Tuple es k pos) (gTup K n t) := hK ▸ pg_tup hc h hn hst
theorem k_iL (K : PySem.W.Frag) {tg l : Expr} {tl : TE} (hl : PE X l tl) (hK : X.K = K := by rfl) : PI X tg l (iList K tl) := hK ▸ pi_list hl
theorem k_iT (K : PySem.W.Frag) {tg l : Expr} {tl : TE} (hl : PE X l tl) (hK : X.K = K := by rfl) : PI X tg l (iTup K tl) := hK ▸ pi_tup hl
theorem k_iE (K : PySem.W.Frag) {ta : TA} {p pos tpos : Pos} {elts : List Expr} {kk : Nat} (hg : Gl X "enumerate") (hm : X.mg "enumerate" = none) (ha : PA X [e] ta) (hs : starEach [e] X.env = [(false, eval e X.env)] := by rfl) (hK : X.K = K := by rfl) :
    PI X (.Tuple elts kk tpos) (.Call (.Name "enumerate" p) [e] [] pos) (iEnum K ta) := hK ▸ pi_enum hg hm ha hs
theorem k_iZ (K : PySem.W.Frag) {e2 : Expr} {ta : TA} {p pos tpos : Pos} {elts : List Expr} {kk : Nat} (hg : Gl X "zip") (hm : X.mg "zip" = none) (ha : PA X [e, e2] ta)
    (hs : starEach [e, e2] X.env = (false, eval e X.env) :: starEach [e2] X.env := by rfl) (hpl : (backTo pos (starEach [e2] X.env)).any (·.1) = false := by rfl) (hK : X.K = K := by rfl) :
    PI X (.Tuple elts kk tpos) (.Call (.Name "zip" p) [e, e2] [] pos) (iZip K ta) := hK ▸ pi_zip hg hm ha hs hpl
end

/-! ### heaps -/
theorem Same.new {H : Hp} {p : Addr} {o : HO} (h : H p = none) : Same H (upd H p o) := fun b x e => by
  rw [upd_ne (ne_of_none e h)]
  exact e
/-- all but l stays -/
def But (l : Addr) (H H' : Hp) : Prop := ∀ b o, b ≠ l → H b = some o → H' b = some o
theorem But.upd {H : Hp} {l : Addr} {o : HO} : But l H (upd H l o) := fun b x n e => by
  rw [upd_ne n]
  exact e
theorem up {H H' : Hp} {a : Addr} {o : HO} (e : Same H H') (h : H a = some o) : H' a = some o := e a o h
theorem upB {H H' : Hp} {l a : Addr} {o : HO} (e : But l H H') (n : a ≠ l) (h : H a = some o) : H' a = some o := e a o n h
theorem upL {K : PySem.W.Frag} {H H' : Hp} {a : Addr} {xs : List V} (e : Same H H') (h : SqL K H a xs) : SqL K H' a xs := e.seq h
theorem upLB {K : PySem.W.Frag} {H H' : Hp} {l a : Addr} {xs : List V} (e : But l H H') (n : a ≠ l) (h : SqL K H a xs) : SqL K H' a xs := by
  rcases h with (h | ⟨o, h⟩) | h
  · exact .inl (.inl (e _ _ n h))
  · exact .inl (.inr ⟨o, e _ _ n h⟩)
  · exact .inr h
theorem upT {K : PySem.W.Frag} {H H' : Hp} {a : Addr} {xs : List V} (e : Same H H') (h : SqT K H a xs) : SqT K H' a xs := by
  rcases h with (h | ⟨o, h⟩) | h
  · exact .inl (.inl (e _ _ h))
  · exact .inl (.inr ⟨o, e _ _ h⟩)
  · exact .inr h
theorem upTB {K : PySem.W.Frag} {H H' : Hp} {l a : Addr} {xs : List V} (e : But l H H') (n : a ≠ l) (h : SqT K H a xs) : SqT K H' a xs := by
  rcases h with (h | ⟨o, h⟩) | h
  · exact .inl (.inl (e _ _ n h))
  · exact .inl (.inr ⟨o, e _ _ n h⟩)
  · exact .inr h
theorem sqL {K : PySem.W.Frag} {H : Hp} {a : Addr} {xs : List V} (h : H a = some (.lst xs)) : SqL K H a xs := .inl (.inl h)
theorem sqT {K : PySem.W.Frag} {H : Hp} {a : Addr} {xs : List V} (h : H a = some (.tup xs)) : SqT K H a xs := .inl (.inl h)
theorem Same.tr {A m B : Hp} (h2 : Same m B) (h1 : Same A m) : Same A B := h1.trans h2
/-- a new object changed: the elder heap stays -/
theorem Same.but {A m B : Hp} {l : Addr} (b : But l m B) (n : A l = none) (h1 : Same A m) : Same A B := fun a o e => b a o (ne_of_none e n) (h1 a o e)
theorem But.tr {A m B : Hp} {l : Addr} (h2 : Same m B) (h1 : But l A m) : But l A B := fun a o n e => h2 a o (h1 a o n e)
theorem But.of {A B : Hp} {l : Addr} (h : Same A B) : But l A B := fun a o _ e => h a o e
theorem But.but {A m B : Hp} {l : Addr} (h2 : But l m B) (h1 : But l A m) : But l A B := fun a o n e => h2 a o n (h1 a o n e)
theorem But.but2 {A m B : Hp} {l k : Addr} (h2 : But k m B) (n : A k = none) (h1 : But l A m) : But l A B := fun a o ne e => h2 a o (ne_of_none e n) (h1 a o ne e)
theorem fr {A B : Hp} {p : Addr} (h : B p = none) (e : Same A B) : A p = none := e.free h
theorem frB {A B : Hp} {l p : Addr} (h : B p = none) (n : p ≠ l) (e : But l A B) : A p = none := by
  cases q : A p with
  | none => rfl
  | some o =>
    rw [e p o n q] at h
    cases h
theorem ne1 {H : Hp} {a l : Addr} {o : HO} (h : H l = none) (h2 : H a = some o) : a ≠ l := ne_of_none h2 h

theorem szl {n : Nat} (h : n ≤ 16777216) : n ≤ sizeLine := by rw [sizeLine_eq]; exact h
theorem szlt {n : Nat} (h : n < 16777216) : n < sizeLine := by rw [sizeLine_eq]; exact h
theorem len_empty : Str.empty.length = 0 := rfl
theorem len_app (a b : Str) : (a ++ b).length = a.length + b.length := Str.length_append a b
/-! ### data -/
mutual
theorem dpUp {K : PySem.W.Frag} {H H' : Hp} (e : Same H H') : ∀ {v : V} {d : PyData}, Dp K H v d → Dp K H' v d
  | _, _, .non => .non
  | _, _, .bl b => .bl b
  | _, _, .int i => .int i
  | _, _, .str x => .str x
  | _, _, .lst h r => .lst (upL e h) (dpsUp e r)
  | _, _, .tup h r => .tup (upT e h) (dpsUp e r)
theorem dpsUp {K : PySem.W.Frag} {H H' : Hp} (e : Same H H') : ∀ {vs : List V} {ds : List PyData}, DpAll K H vs ds → DpAll K H' vs ds
  | _, _, .nil => .nil
  | _, _, .cons h r => .cons (dpUp e h) (dpsUp e r)
end

/-! ### readings, one step -/
section
variable {K : PySem.W.Frag} {σ : L2.St} {H : Hp} {Q : VK} {QB : Bool → Hp → Prop} {QA : List V → Hp → Prop} {ta tb tc te : TE} {tA tB' : TT} {tr : TA} {r r' : R2} {v : V} {i j : Int} {D : Ends} {t u : TS} {g : TG} {b : Bool}
theorem r_var {n : Nat} (h : σ[n]? = some (some v)) (q : Q v H) : tVar n σ H Q := ⟨v, h, q⟩
theorem r_c (q : Q v H) : tC v σ H Q := q
theorem r_op (q : ta σ H fun x H1 => tb σ H1 fun y H2 => r x y H2 Q) : tOp r ta tb σ H Q := q
theorem r_un {ru : V → Hp → VK → Prop} (q : ta σ H fun x H1 => ru x H1 Q) : tUn ru ta σ H Q := q
theorem r_I0 {f : Int → Int → V} (q : Q (f i j) H) : rI0 f (.int i) (.int j) H Q := ⟨i, j, rfl, rfl, q⟩
theorem r_I {C : Int → Int → Prop} {f : Int → Int → V} (q : Q (f i j) H) (c : C i j) : rI C f (.int i) (.int j) H Q := ⟨i, j, rfl, rfl, c, q⟩
theorem r_U {f : Int → V} (q : Q (f i) H) : rU f (.int i) H Q := ⟨i, rfl, q⟩
theorem r_addI (q : Q (.int (i + j)) H) : rAddP K (.int i) (.int j) H Q := .inl ⟨i, j, rfl, rfl, q⟩
theorem r_addS {x y : Str} (q : Q (.str (x ++ y)) H) (h : x.length + y.length ≤ sizeLine) : rAddP K (.str x) (.str y) H Q := .inr (.inl ⟨x, y, rfl, rfl, h, q⟩)
theorem r_addL {l m : Addr} {xs ys : List V} (h1 : H l = some (.lst xs)) (h2 : H m = some (.lst ys)) (q : ∀ p H', H p = none → Same H H' → H' p = some (.lst (xs ++ ys)) → Q (.ref p) H') (h : xs.length + ys.length ≤ sizeLine) : rAddP K (.ref l) (.ref m) H Q :=
  .inr (.inr (.inl ⟨l, m, xs, ys, rfl, rfl, h1, h2, h, fun p hp => q p _ hp (Same.new hp) upd_same⟩))
theorem r_mulI (q : Q (.int (i * j)) H) (c : CMulP i j) : rMulP (.int i) (.int j) H Q := .inl ⟨i, j, rfl, rfl, c, q⟩
theorem r_sub (q : Q (.int (i - j)) H) : rSub (.int i) (.int j) H Q := ⟨i, j, rfl, rfl, q⟩
theorem r_mod (q : Q (.int (i % j)) H) (c : 0 < j) : rMod (.int i) (.int j) H Q := ⟨i, j, rfl, rfl, c, q⟩
theorem r_div (q : Q (.int (i / j)) H) (c : CDivP i j) : rDiv (.int i) (.int j) H Q := ⟨i, j, rfl, rfl, c, q⟩
theorem r_pow (q : Q (.int (i ^ j.toNat)) H) (c : CPow i j) : rPow (.int i) (.int j) H Q := ⟨i, j, rfl, rfl, c, q⟩
theorem p10_6 (q : Q (.int 1000000) H) : rPow (.int 10) (.int 6) H Q := ⟨10, 6, rfl, rfl, by unfold CPow; decide, q⟩
theorem p10_8 (q : Q (.int 100000000) H) : rPow (.int 10) (.int 8) H Q := ⟨10, 8, rfl, rfl, by unfold CPow; decide, q⟩
theorem p10_9 (q : Q (.int 1000000000) H) : rPow (.int 10) (.int 9) H Q := ⟨10, 9, rfl, rfl, by unfold CPow; decide, q⟩
theorem p10_18 (q : Q (.int 1000000000000000000) H) : rPow (.int 10) (.int 18) H Q := ⟨10, 18, rfl, rfl, by unfold CPow; decide, q⟩
theorem r_eq {x y : V} (q : Q (.bl (decide (x = y))) H) (h : scal x y = true) : rEqP K x y H Q := .inl ⟨h, q⟩
theorem r_ne {x y : V} (q : Q (.bl (!decide (x = y))) H) (h : scal x y = true) : rNeP K x y H Q := .inl ⟨h, q⟩
theorem r_eqI (q : Q (.bl (decide (i = j))) H) : rEqP K (.int i) (.int j) H Q := .inl ⟨rfl, by
  rw [show decide (V.int i = V.int j) = decide (i = j) by simp]
  exact q⟩
theorem r_neI (q : Q (.bl (!decide (i = j))) H) : rNeP K (.int i) (.int j) H Q := .inl ⟨rfl, by
  rw [show decide (V.int i = V.int j) = decide (i = j) by simp]
  exact q⟩
theorem r_eqS {x y : Str} (q : Q (.bl (decide (x = y))) H) : rEqP K (.str x) (.str y) H Q := .inl ⟨rfl, by
  rw [show decide (V.str x = V.str y) = decide (x = y) by simp]
  exact q⟩
theorem r_neS {x y : Str} (q : Q (.bl (!decide (x = y))) H) : rNeP K (.str x) (.str y) H Q := .inl ⟨rfl, by
  rw [show decide (V.str x = V.str y) = decide (x = y) by simp]
  exact q⟩
theorem r_eqD {x y : V} {d e : PyData} (hd : Dp K H x d) (he : Dp K H y e) (q : Q (.bl (PyData.eqv d e)) H) (h1 : SeqAt.shaped d = true) (h2 : SeqAt.shaped e = true) : rEqP K x y H Q := .inr ⟨d, e, hd, he, h1, h2, q⟩
theorem r_neD {x y : V} {d e : PyData} (hd : Dp K H x d) (he : Dp K H y e) (q : Q (.bl (!PyData.eqv d e)) H) (h1 : SeqAt.shaped d = true) (h2 : SeqAt.shaped e = true) : rNeP K x y H Q := .inr ⟨d, e, hd, he, h1, h2, q⟩
theorem r_lt (q : Q (.bl (decide (i < j))) H) : rLtI (.int i) (.int j) H Q := ⟨i, j, rfl, rfl, q⟩
theorem r_le (q : Q (.bl (decide (i ≤ j))) H) : rLeI (.int i) (.int j) H Q := ⟨i, j, rfl, rfl, q⟩
theorem r_gt (q : Q (.bl (decide (j < i))) H) : rGtI (.int i) (.int j) H Q := ⟨i, j, rfl, rfl, q⟩
theorem r_ge (q : Q (.bl (decide (j ≤ i))) H) : rGeI (.int i) (.int j) H Q := ⟨i, j, rfl, rfl, q⟩
theorem r_isN (q : Q (.bl true) H) : rIs .non .non H Q := ⟨rfl, q⟩
theorem r_isI (q : Q (.bl false) H) : rIs (.int i) .non H Q := ⟨rfl, q⟩
theorem r_isS {x : Str} (q : Q (.bl false) H) : rIs (.str x) .non H Q := ⟨rfl, q⟩
theorem r_isR {x : Addr} (q : Q (.bl false) H) : rIs (.ref x) .non H Q := ⟨rfl, q⟩
theorem r_isB {x : Bool} (q : Q (.bl false) H) : rIs (.bl x) .non H Q := ⟨rfl, q⟩
theorem r_notN (q : Q (.bl false) H) : rIsNot .non .non H Q := ⟨rfl, q⟩
theorem r_notI (q : Q (.bl true) H) : rIsNot (.int i) .non H Q := ⟨rfl, q⟩
theorem r_notS {x : Str} (q : Q (.bl true) H) : rIsNot (.str x) .non H Q := ⟨rfl, q⟩
theorem r_notR {x : Addr} (q : Q (.bl true) H) : rIsNot (.ref x) .non H Q := ⟨rfl, q⟩
theorem r_inT {c : Nat} {z : Str} (q : Q (.bl (decide (c ∈ z.cps.toList))) H) : rInP K false (.str ⟨#[c]⟩) (.str z) H Q := .inl ⟨c, z, rfl, rfl, q⟩
theorem r_notInT {c : Nat} {z : Str} (q : Q (.bl (!decide (c ∈ z.cps.toList))) H) : rInP K true (.str ⟨#[c]⟩) (.str z) H Q := .inl ⟨c, z, rfl, rfl, q⟩
theorem r_inL {x : V} {p : Addr} {xs : List V} (hp : SqL K H p xs) (q : Q (.bl (inV x xs)) H) (fx : flatV x = true) (fs : xs.all flatV = true) : rInP K false x (.ref p) H Q := .inr ⟨p, xs, rfl, .inl hp, fx, fs, q⟩
theorem r_notInL {x : V} {p : Addr} {xs : List V} (hp : SqL K H p xs) (q : Q (.bl (!inV x xs)) H) (fx : flatV x = true) (fs : xs.all flatV = true) : rInP K true x (.ref p) H Q := .inr ⟨p, xs, rfl, .inl hp, fx, fs, q⟩
theorem r_ixL {p : Addr} {xs : List V} (h : SqL K H p xs) (a : atI xs i = some v) (q : Q v H) : rIx K (.ref p) (.int i) H Q := .inl ⟨p, xs, i, v, rfl, rfl, h, a, q⟩
theorem r_ixT {p : Addr} {xs : List V} (h : SqT K H p xs) (a : atI xs i = some v) (q : Q v H) : rIx K (.ref p) (.int i) H Q := .inr (.inl ⟨p, xs, i, v, rfl, rfl, h, a, q⟩)
theorem r_ixS {z : Str} {c : Nat} (h : z.length ≤ sizeLine) (a : atI z.cps.toList i = some c) (q : Q (.str ⟨#[c]⟩) H) : rIx K (.str z) (.int i) H Q := .inr (.inr ⟨z, i, c, rfl, rfl, h, a, q⟩)
/-- slices -/
theorem r_slL {p : Addr} {xs : List V} {lo hi : Option Int} (h : SqL K H p xs) (q : ∀ p H', H p = none → Same H H' → H' p = some (.lst (cutV xs lo hi)) → Q (.ref p) H') : rSlP K (.ref p) lo hi H Q := .inl ⟨p, xs, rfl, h, fun p hp => q p _ hp (Same.new hp) upd_same⟩
theorem r_slS {z : Str} {lo hi : Option Int} (q : Q (.str (cutS z lo hi)) H) (h : z.length ≤ sizeLine) : rSlP K (.str z) lo hi H Q := .inr (.inl ⟨z, rfl, h, q⟩)
theorem r_sl {rs : V → Option Int → Option Int → Hp → VK → Prop} {tl th : TO} (q : te σ H fun x H1 => tl σ H1 fun l H2 => th σ H2 fun u H3 => rs x l u H3 Q) : tSl rs te tl th σ H Q := q
theorem r_part {QO : Option Int → Hp → Prop} (q : te σ H fun x H1 => ∃ i, x = .int i ∧ QO (some i) H1) : tPart te σ H QO := q
theorem r_exI {QO : Int → Prop} (q : QO i) : ∃ k, V.int i = .int k ∧ QO k := ⟨i, rfl, q⟩
theorem r_noPart {QO : Option Int → Hp → Prop} (q : QO none H) : tNoPart σ H QO := q
/-- displays -/
def NewT (xs : List V) (H : Hp) (Q : VK) : Prop := xs.length ≤ sizeLine ∧ ∀ p, H p = none → Q (.ref p) (upd H p (.tup xs))
def NewL (xs : List V) (H : Hp) (Q : VK) : Prop := xs.length ≤ sizeLine ∧ ∀ p, H p = none → Q (.ref p) (upd H p (.lst xs))
theorem r_tup (q : tr σ H fun xs H1 => NewT xs H1 Q) : tTup tr σ H Q := q
theorem r_lst (q : tr σ H fun xs H1 => NewL xs H1 Q) : tLst tr σ H Q := q
theorem r_newT {xs : List V} (q : ∀ p H', H p = none → Same H H' → H' p = some (.tup xs) → Q (.ref p) H') (h : xs.length ≤ sizeLine) : NewT xs H Q := ⟨h, fun p hp => q p _ hp (Same.new hp) upd_same⟩
theorem r_newL {xs : List V} (q : ∀ p H', H p = none → Same H H' → H' p = some (.lst xs) → Q (.ref p) H') (h : xs.length ≤ sizeLine) : NewL xs H Q := ⟨h, fun p hp => q p _ hp (Same.new hp) upd_same⟩
theorem r_new {xs : List V} (q : ∀ p H', H p = none → Same H H' → H' p = some (.lst xs) → Q (.ref p) H') : ∀ p, H p = none → Q (.ref p) (upd H p (.lst xs)) := fun p hp => q p _ hp (Same.new hp) upd_same
theorem r_nil (q : QA [] H) : tNil σ H QA := q
theorem r_cons (q : ta σ H fun x H1 => tr σ H1 fun xs H2 => QA (x :: xs) H2) : tCons ta tr σ H QA := q
theorem r_CB {rc : List V → Hp → VK → Prop} (q : tr σ H fun vs H1 => rc vs H1 Q) : tCB rc tr σ H Q := q
theorem r_call {sp : Sp} {dvs : List V} {E : XK} (q : tr σ H fun vs H1 => sp (vs ++ dvs) H1 Q E) : tCall sp dvs E tr σ H Q := q
theorem r_BM {T : String} {rm : V → List V → Hp → VK → Prop} (q : te σ H fun x H1 => tyV K T x H1 ∧ tr σ H1 fun xs H2 => rm x xs H2 Q) : tBM K T rm te tr σ H Q := q
theorem r_BM0 {T : String} {rm : V → List V → Hp → VK → Prop} (q : te σ H fun x H1 => tyV K T x H1 ∧ rm x [] H1 Q) : tBM0 K T rm te σ H Q := q
theorem r_abs (q : Q (.int (i.natAbs : Nat)) H) : cAbs [.int i] H Q := ⟨i, rfl, by
  rw [show (if i < 0 then -i else i) = ((i.natAbs : Nat) : Int) by split <;> omega]
  exact q⟩
theorem r_max (q : Q (.int (if j > i then j else i)) H) : cMax [.int i, .int j] H Q := ⟨i, j, rfl, q⟩
theorem r_min (q : Q (.int (if j < i then j else i)) H) : cMin [.int i, .int j] H Q := ⟨i, j, rfl, q⟩
theorem r_lenL {p : Addr} {xs : List V} (h : SqL K H p xs) (q : Q (.int (xs.length : Nat)) H) : cLen K [.ref p] H Q := ⟨_, _, rfl, .inl ⟨xs, h, rfl⟩, q⟩
theorem r_lenT {p : Addr} {xs : List V} (h : SqT K H p xs) (q : Q (.int (xs.length : Nat)) H) : cLen K [.ref p] H Q := ⟨_, _, rfl, .inr ⟨xs, h, rfl⟩, q⟩
theorem r_lenS {z : Str} (q : Q (.int (z.length : Nat)) H) (h : z.length ≤ sizeLine) : cLen K [.str z] H Q := ⟨_, _, rfl, ⟨h, rfl⟩, q⟩
theorem r_strI (q : Q (.str (toString i)) H) (h : i.natAbs.log2 < 1920) : cStr [.int i] H Q := ⟨i, rfl, h, q⟩
theorem r_intS {z : Str} {n : Int} (h : PySem.intText? z = some n) (q : Q (.int n) H) (hl : z.length ≤ 640) : cInt [.str z] H Q := ⟨z, n, rfl, h, hl, q⟩
theorem r_listL {p : Addr} {xs : List V} (h : SqL K H p xs) (q : ∀ p H', H p = none → Same H H' → H' p = some (.lst xs) → Q (.ref p) H') : cList K [.ref p] H Q := ⟨p, xs, rfl, .inl h, fun p hp => q p _ hp (Same.new hp) upd_same⟩
theorem r_listT {p : Addr} {xs : List V} (h : SqT K H p xs) (q : ∀ p H', H p = none → Same H H' → H' p = some (.lst xs) → Q (.ref p) H') : cList K [.ref p] H Q := ⟨p, xs, rfl, .inr h, fun p hp => q p _ hp (Same.new hp) upd_same⟩
theorem r_all {p : Addr} {bs : List Bool} (h : SqL K H p (bs.map V.bl)) (q : Q (.bl (bs.all id)) H) : rAll K [.ref p] H Q := ⟨p, bs, rfl, h, q⟩
theorem r_any {p : Addr} {bs : List Bool} (h : SqL K H p (bs.map V.bl)) (q : Q (.bl (bs.any id)) H) : rAny K [.ref p] H Q := ⟨p, bs, rfl, h, q⟩
/-- isinstance(x, T), T built-in -/
theorem r_isi {x : V} {a c : String} {k : Bool} (ty : TyX K H x (.type a)) (q : Q (.bl k) H) (h : kitB a c = some k) : rIsi K [x, .ty c] H Q := ⟨x, .ty c, .type a, .type c, k, rfl, .ty c, ty, kit_ty h, q⟩
theorem ty_int : TyX K H (.int i) (.type "int") := .base (.int i)
theorem ty_bl : TyX K H (.bl b) (.type "bool") := .base (.bl b)
theorem ty_str {x : Str} : TyX K H (.str x) (.type "str") := .base (.str x)
theorem ty_non : TyX K H .non (.type "NoneType") := .base .non
theorem r_isiHd {x : V} {c : String} (q : rIsi K [x, .ty c] H Q) : rIsi K [x, .ty c] H Q := q
theorem ty_lst {p : Addr} {xs : List V} (h : H p = some (.lst xs)) : TyX K H (.ref p) (.type "list") := .base (.lst h)
theorem ty_tup {p : Addr} {xs : List V} (h : H p = some (.tup xs)) : TyX K H (.ref p) (.type "tuple") := .base (.tup h)
/-- methods -/
theorem r_append {l : Addr} {xs : List V} (h : H l = some (.lst xs)) (q : ∀ H', But l H H' → H' l = some (.lst (xs ++ [v])) → Q .non H') (hz : xs.length < sizeLine) : tyV K "list" (.ref l) H ∧ rAppend (.ref l) [v] H Q :=
  ⟨.inl ⟨rfl, _, .inl (.inl h)⟩, l, xs, v, rfl, rfl, h, hz, q _ But.upd upd_same⟩
theorem r_tyL {l : Addr} {xs : List V} (h : H l = some (.lst xs)) {A : Prop} (q : A) : tyV K "list" (.ref l) H ∧ A := ⟨.inl ⟨rfl, _, .inl (.inl h)⟩, q⟩
theorem r_appendQ {l : Addr} {xs : List V} (h : H l = some (.lst xs)) (q : ∀ H', But l H H' → H' l = some (.lst (xs ++ [v])) → Q .non H') (hz : xs.length < sizeLine) : rAppend (.ref l) [v] H Q :=
  ⟨l, xs, v, rfl, rfl, h, hz, q _ But.upd upd_same⟩
theorem r_tyS {x : Str} {A : Prop} (q : A) : tyV K "str" (.str x) H ∧ A := ⟨rfl, q⟩
theorem r_split {x y : Str} (q : ∀ p H', H p = none → Same H H' → H' p = some (.lst ((Txt.split x y).map V.str)) → Q (.ref p) H') (h : (y.length == 0) = false) (hz : x.length + 2 ≤ sizeLine) : mSplit (.str x) [.str y] H Q :=
  ⟨x, y, rfl, rfl, h, hz, fun p hp => q p _ hp (Same.new hp) upd_same⟩
/-- o[i] = v, o a list -/
theorem r_subTg {to ti : TE} {tset : TSet} {QS : L2.St → Hp → Prop} (q : to σ H fun o H1 => ti σ H1 fun k H2 => tset o k v H2 fun H3 => QS σ H3) : gSub to ti tset v σ H QS := q
theorem r_setL {l : Addr} {xs : List V} {n : Nat} {QH : Hp → Prop} (h : H l = some (.lst xs)) (hi : ixN xs.length i = some n) (q : ∀ H', But l H H' → H' l = some (.lst (xs.set n v)) → QH H') : rSetL (.ref l) (.int i) v H QH :=
  ⟨l, xs, i, n, rfl, rfl, h, hi, q _ But.upd upd_same⟩
/-- f-strings -/
def rFmt : V → Hp → VK → Prop := fun x H Q => (∃ y : Str, x = .str y ∧ y.length ≤ sizeLine ∧ Q (.str y) H) ∨ ∃ i : Int, x = .int i ∧ i.natAbs.log2 < 1920 ∧ Q (.str (toString i)) H
theorem r_fmtI (q : Q (.str (toString i)) H) (h : i.natAbs.log2 < 1920) : rFmt (.int i) H Q := .inr ⟨i, rfl, h, q⟩
theorem r_fmtS {x : Str} (q : Q (.str x) H) (h : x.length ≤ sizeLine) : rFmt (.str x) H Q := .inl ⟨x, rfl, h, q⟩
theorem r_fmt (q : te σ H fun x H1 => rFmt x H1 Q) : tFmt te σ H Q := q
theorem r_joined {ts : List TE} {acc : Str} (q : tJs ts acc σ H fun out H1 => Q (.str out) H1) : (fun σ H Q => tJs ts acc σ H fun out H1 => Q (.str out) H1) σ H Q := q
theorem r_js0 {acc : Str} {QS : Str → Hp → Prop} (q : QS acc H) : tJs [] acc σ H QS := q
theorem r_js {ts : List TE} {acc : Str} {QS : Str → Hp → Prop} (q : te σ H fun x H1 => ∃ y : Str, x = .str y ∧ (acc ++ y).length ≤ sizeLine ∧ tJs ts (acc ++ y) σ H1 QS) : tJs (te :: ts) acc σ H QS := q
theorem r_jsS {ts : List TE} {acc x : Str} {QS : Str → Hp → Prop} (q : tJs ts (acc ++ x) σ H QS) (h : (acc ++ x).length ≤ sizeLine) : ∃ y : Str, V.str x = .str y ∧ (acc ++ y).length ≤ sizeLine ∧ tJs ts (acc ++ y) σ H QS := ⟨x, rfl, h, q⟩
/-- tests -/
theorem r_test (q : te σ H fun x H' => ∃ k, x = .bl k ∧ QB k H') : tTest te σ H QB := q
theorem r_tB (q : te σ H fun x H' => ∃ k, x = .bl k ∧ QB k H') : tB te σ H QB := q
theorem r_exB {QQ : Bool → Prop} (q : QQ b) : ∃ k, V.bl b = .bl k ∧ QQ k := ⟨b, rfl, q⟩
theorem r_and (q : tA σ H fun c H1 => if c = true then tB' σ H1 QB else QB false H1) : tAnd tA tB' σ H QB := q
theorem r_or (q : tA σ H fun c H1 => if c = true then QB true H1 else tB' σ H1 QB) : tOr tA tB' σ H QB := q
theorem r_not (q : tA σ H fun c H1 => QB (!c) H1) : tNot tA σ H QB := q
theorem r_andV (q : ta σ H fun x H1 => ∃ c, x = .bl c ∧ if c = true then tb σ H1 Q else Q (.bl false) H1) : tAndV ta tb σ H Q := q
theorem r_orV (q : ta σ H fun x H1 => ∃ c, x = .bl c ∧ if c = true then Q (.bl true) H1 else tb σ H1 Q) : tOrV ta tb σ H Q := q
theorem r_notV (q : ta σ H fun x H1 => ∃ c, x = .bl c ∧ Q (.bl (!c)) H1) : tNotV ta σ H Q := q
theorem r_chain (q : ta σ H fun x H1 => tb σ H1 fun y H2 => r x y H2 fun z H3 => ∃ k, z = .bl k ∧ (if k = true then tc σ H3 fun w' H4 => r' y w' H4 Q else Q (.bl false) H3)) : tChain r r' ta tb tc σ H Q := q
theorem r_ifE (q : tA σ H fun c H1 => if c = true then ta σ H1 Q else tb σ H1 Q) : tIf tA ta tb σ H Q := q
/-- known outcomes -/
theorem r_T {A B : Prop} (h : A) : if true = true then A else B := by rw [if_pos rfl]; exact h
theorem r_F {A B : Prop} (h : B) : if false = true then A else B := by rw [if_neg Bool.false_ne_true]; exact h
theorem r_nT {A B : Prop} (h : B) : if (!true) = true then A else B := r_F h
theorem r_nF {A B : Prop} (h : A) : if (!false) = true then A else B := r_T h
theorem r_dT {p : Prop} [Decidable p] {A B : Prop} (hp : p) (h : A) : if decide p = true then A else B := by rw [decide_eq_true hp]; exact r_T h
theorem r_dF {p : Prop} [Decidable p] {A B : Prop} (hp : ¬ p) (h : B) : if decide p = true then A else B := by rw [decide_eq_false hp]; exact r_F h
theorem r_ndT {p : Prop} [Decidable p] {A B : Prop} (hp : p) (h : B) : if (!decide p) = true then A else B := by rw [decide_eq_true hp]; exact r_F h
theorem r_ndF {p : Prop} [Decidable p] {A B : Prop} (hp : ¬ p) (h : A) : if (!decide p) = true then A else B := by rw [decide_eq_false hp]; exact r_T h
theorem r_bT {c : Bool} {A B : Prop} (hc : c = true) (h : A) : if c = true then A else B := by rw [hc]; exact r_T h
theorem r_bF {c : Bool} {A B : Prop} (hc : c = false) (h : B) : if c = true then A else B := by rw [hc]; exact r_F h
theorem r_ite {p : Prop} [Decidable p] {A B : Prop} (h1 : p → A) (h2 : ¬ p → B) : if decide p = true then A else B := by
  by_cases h : p
  · exact r_dT h (h1 h)
  · exact r_dF h (h2 h)
theorem r_nite {p : Prop} [Decidable p] {A B : Prop} (h1 : ¬ p → A) (h2 : p → B) : if (!decide p) = true then A else B := by
  by_cases h : p
  · exact r_ndT h (h2 h)
  · exact r_ndF h (h1 h)
theorem r_bite {c : Bool} {A B : Prop} (h1 : c = true → A) (h2 : c = false → B) : if c = true then A else B := by
  cases c with
  | true => exact r_T (h1 rfl)
  | false => exact r_F (h2 rfl)
/-- statements -/
theorem r_seq (q : t { D with nx := u D } σ H) : tSeq t u D σ H := q
theorem r_cut (Mid : L2.St → Hp → Prop) (h1 : t { D with nx := Mid } σ H) (h2 : ∀ σ' H', Mid σ' H' → u D σ' H') : Evl.tCut t u D σ H := ⟨Mid, h1, h2⟩
theorem r_next (q : D.nx σ H) : tNext D σ H := q
theorem r_asg (q : te σ H fun x H1 => g x σ H1 D.nx) : tAsg te g D σ H := q
theorem r_par {m n : Nat} {tr : TA} (q : tr σ H fun vs H1 => ∃ v w, vs = [v, w] ∧ D.nx ((σ.set m (some v)).set n (some w)) H1) : tPar m n tr D σ H := q
theorem r_par2 {m n : Nat} {x y : V} (q : (gName m x σ H fun σ' H' => gName n y σ' H' D.nx)) : ∃ v w, [x, y] = [v, w] ∧ D.nx ((σ.set m (some v)).set n (some w)) H := ⟨x, y, rfl, q⟩
theorem r_drop (q : te σ H fun _ H1 => D.nx σ H1) : tDrop te D σ H := q
theorem r_ret (q : te σ H D.rt) : tRet te D σ H := q
theorem r_retN (q : D.rt .non H) : tRetN D σ H := q
theorem r_ifS (q : tA σ H fun b H1 => if b = true then t D σ H1 else u D σ H1) : tIfS tA t u D σ H := q
theorem r_brk (q : D.bk σ H) : tBreak D σ H := q
theorem r_cnt (q : D.ct σ H) : tCont D σ H := q
theorem r_tg {n : Nat} {ts : TGs} {a : Addr} {xs : List V} {QS : L2.St → Hp → Prop} (h : SqT K H a xs) (q : ts xs σ H QS) (hl : xs.length = n) : gTup K n ts (.ref a) σ H QS := ⟨a, xs, rfl, h, hl, q⟩
theorem r_gnil {QS : L2.St → Hp → Prop} (q : QS σ H) : gNil [] σ H QS := ⟨rfl, q⟩
theorem r_gcons {ts : TGs} {x : V} {xs : List V} {QS : L2.St → Hp → Prop} (q : g x σ H fun σ' H' => ts xs σ' H' QS) : gCons g ts (x :: xs) σ H QS := ⟨x, xs, rfl, q⟩
theorem r_aug {n : Nat} {f : Int → Int → Int} (h : σ[n]? = some (some (.int i))) (q : te σ H fun y H1 => ∃ k, y = .int k ∧ gName n (.int (f i k)) σ H1 D.nx) : tAug n te (ipI f) D σ H := by
  refine ⟨_, h, ?_⟩
  have e : (fun y H1 => ∃ k, y = V.int k ∧ gName n (.int (f i k)) σ H1 D.nx) = fun y H1 => ipI f (.int i) y H1 fun z H2 => D.nx (σ.set n (some z)) H2 := by
    funext y H1
    apply propext
    constructor
    · rintro ⟨k, rfl, h⟩
      exact ⟨i, k, rfl, rfl, h⟩
    · rintro ⟨a, k, e, rfl, h⟩
      cases e
      exact ⟨k, rfl, h⟩
  rw [← e]
  exact q
end
/-! names stored, by place -/
section
variable {H : Hp} {v : V} {QS : L2.St → Hp → Prop} {r : L2.St} {a0 a1 a2 a3 a4 a5 a6 a7 a8 a9 b0 b1 b2 b3 b4 b5 b6 b7 b8 b9 : Option V}
theorem v0 {w : V} {QV : VK} (q : QV w H) : tVar 0 (some w :: r) H QV := ⟨w, rfl, q⟩
theorem v1 {w : V} {QV : VK} (q : QV w H) : tVar 1 (a0 :: some w :: r) H QV := ⟨w, rfl, q⟩
theorem v2 {w : V} {QV : VK} (q : QV w H) : tVar 2 (a0 :: a1 :: some w :: r) H QV := ⟨w, rfl, q⟩
theorem v3 {w : V} {QV : VK} (q : QV w H) : tVar 3 (a0 :: a1 :: a2 :: some w :: r) H QV := ⟨w, rfl, q⟩
theorem v4 {w : V} {QV : VK} (q : QV w H) : tVar 4 (a0 :: a1 :: a2 :: a3 :: some w :: r) H QV := ⟨w, rfl, q⟩
theorem v5 {w : V} {QV : VK} (q : QV w H) : tVar 5 (a0 :: a1 :: a2 :: a3 :: a4 :: some w :: r) H QV := ⟨w, rfl, q⟩
theorem v6 {w : V} {QV : VK} (q : QV w H) : tVar 6 (a0 :: a1 :: a2 :: a3 :: a4 :: a5 :: some w :: r) H QV := ⟨w, rfl, q⟩
theorem v7 {w : V} {QV : VK} (q : QV w H) : tVar 7 (a0 :: a1 :: a2 :: a3 :: a4 :: a5 :: a6 :: some w :: r) H QV := ⟨w, rfl, q⟩
theorem v8 {w : V} {QV : VK} (q : QV w H) : tVar 8 (a0 :: a1 :: a2 :: a3 :: a4 :: a5 :: a6 :: a7 :: some w :: r) H QV := ⟨w, rfl, q⟩
theorem v9 {w : V} {QV : VK} (q : QV w H) : tVar 9 (a0 :: a1 :: a2 :: a3 :: a4 :: a5 :: a6 :: a7 :: a8 :: some w :: r) H QV := ⟨w, rfl, q⟩
theorem v10 {w : V} {QV : VK} (q : QV w H) : tVar 10 (a0 :: a1 :: a2 :: a3 :: a4 :: a5 :: a6 :: a7 :: a8 :: a9 :: some w :: r) H QV := ⟨w, rfl, q⟩
theorem v11 {w : V} {QV : VK} (q : QV w H) : tVar 11 (a0 :: a1 :: a2 :: a3 :: a4 :: a5 :: a6 :: a7 :: a8 :: a9 :: b0 :: some w :: r) H QV := ⟨w, rfl, q⟩
theorem v12 {w : V} {QV : VK} (q : QV w H) : tVar 12 (a0 :: a1 :: a2 :: a3 :: a4 :: a5 :: a6 :: a7 :: a8 :: a9 :: b0 :: b1 :: some w :: r) H QV := ⟨w, rfl, q⟩
theorem v13 {w : V} {QV : VK} (q : QV w H) : tVar 13 (a0 :: a1 :: a2 :: a3 :: a4 :: a5 :: a6 :: a7 :: a8 :: a9 :: b0 :: b1 :: b2 :: some w :: r) H QV := ⟨w, rfl, q⟩
theorem v14 {w : V} {QV : VK} (q : QV w H) : tVar 14 (a0 :: a1 :: a2 :: a3 :: a4 :: a5 :: a6 :: a7 :: a8 :: a9 :: b0 :: b1 :: b2 :: b3 :: some w :: r) H QV := ⟨w, rfl, q⟩
theorem n0 (q : QS (some v :: r) H) : gName 0 v (a0 :: r) H QS := q
theorem n1 (q : QS (a0 :: some v :: r) H) : gName 1 v (a0 :: a1 :: r) H QS := q
theorem n2 (q : QS (a0 :: a1 :: some v :: r) H) : gName 2 v (a0 :: a1 :: a2 :: r) H QS := q
theorem n3 (q : QS (a0 :: a1 :: a2 :: some v :: r) H) : gName 3 v (a0 :: a1 :: a2 :: a3 :: r) H QS := q
theorem n4 (q : QS (a0 :: a1 :: a2 :: a3 :: some v :: r) H) : gName 4 v (a0 :: a1 :: a2 :: a3 :: a4 :: r) H QS := q
theorem n5 (q : QS (a0 :: a1 :: a2 :: a3 :: a4 :: some v :: r) H) : gName 5 v (a0 :: a1 :: a2 :: a3 :: a4 :: a5 :: r) H QS := q
theorem n6 (q : QS (a0 :: a1 :: a2 :: a3 :: a4 :: a5 :: some v :: r) H) : gName 6 v (a0 :: a1 :: a2 :: a3 :: a4 :: a5 :: a6 :: r) H QS := q
theorem n7 (q : QS (a0 :: a1 :: a2 :: a3 :: a4 :: a5 :: a6 :: some v :: r) H) : gName 7 v (a0 :: a1 :: a2 :: a3 :: a4 :: a5 :: a6 :: a7 :: r) H QS := q
theorem n8 (q : QS (a0 :: a1 :: a2 :: a3 :: a4 :: a5 :: a6 :: a7 :: some v :: r) H) : gName 8 v (a0 :: a1 :: a2 :: a3 :: a4 :: a5 :: a6 :: a7 :: a8 :: r) H QS := q
theorem n9 (q : QS (a0 :: a1 :: a2 :: a3 :: a4 :: a5 :: a6 :: a7 :: a8 :: some v :: r) H) : gName 9 v (a0 :: a1 :: a2 :: a3 :: a4 :: a5 :: a6 :: a7 :: a8 :: a9 :: r) H QS := q
theorem n10 (q : QS (a0 :: a1 :: a2 :: a3 :: a4 :: a5 :: a6 :: a7 :: a8 :: a9 :: some v :: r) H) : gName 10 v (a0 :: a1 :: a2 :: a3 :: a4 :: a5 :: a6 :: a7 :: a8 :: a9 :: b0 :: r) H QS := q
theorem n11 (q : QS (a0 :: a1 :: a2 :: a3 :: a4 :: a5 :: a6 :: a7 :: a8 :: a9 :: b0 :: some v :: r) H) : gName 11 v (a0 :: a1 :: a2 :: a3 :: a4 :: a5 :: a6 :: a7 :: a8 :: a9 :: b0 :: b1 :: r) H QS := q
theorem n12 (q : QS (a0 :: a1 :: a2 :: a3 :: a4 :: a5 :: a6 :: a7 :: a8 :: a9 :: b0 :: b1 :: some v :: r) H) : gName 12 v (a0 :: a1 :: a2 :: a3 :: a4 :: a5 :: a6 :: a7 :: a8 :: a9 :: b0 :: b1 :: b2 :: r) H QS := q
theorem n13 (q : QS (a0 :: a1 :: a2 :: a3 :: a4 :: a5 :: a6 :: a7 :: a8 :: a9 :: b0 :: b1 :: b2 :: some v :: r) H) : gName 13 v (a0 :: a1 :: a2 :: a3 :: a4 :: a5 :: a6 :: a7 :: a8 :: a9 :: b0 :: b1 :: b2 :: b3 :: r) H QS := q
theorem n14 (q : QS (a0 :: a1 :: a2 :: a3 :: a4 :: a5 :: a6 :: a7 :: a8 :: a9 :: b0 :: b1 :: b2 :: b3 :: some v :: r) H) : gName 14 v (a0 :: a1 :: a2 :: a3 :: a4 :: a5 :: a6 :: a7 :: a8 :: a9 :: b0 :: b1 :: b2 :: b3 :: b4 :: r) H QS := q
end

/-! isinstance -/
theorem q_int_int {i : Int} {K : PySem.W.Frag} {H : Hp} {Q : VK} (q : Q (.bl true) H) : rIsi K [.int i, .ty "int"] H Q := ⟨_, .ty "int", .type "int", .type "int", true, rfl, .ty "int", .base (.int i), kit_ty (by decide +kernel), q⟩
theorem q_int_bool {i : Int} {K : PySem.W.Frag} {H : Hp} {Q : VK} (q : Q (.bl false) H) : rIsi K [.int i, .ty "bool"] H Q := ⟨_, .ty "bool", .type "int", .type "bool", false, rfl, .ty "bool", .base (.int i), kit_ty (by decide +kernel), q⟩
theorem q_int_str {i : Int} {K : PySem.W.Frag} {H : Hp} {Q : VK} (q : Q (.bl false) H) : rIsi K [.int i, .ty "str"] H Q := ⟨_, .ty "str", .type "int", .type "str", false, rfl, .ty "str", .base (.int i), kit_ty (by decide +kernel), q⟩
theorem q_int_list {i : Int} {K : PySem.W.Frag} {H : Hp} {Q : VK} (q : Q (.bl false) H) : rIsi K [.int i, .ty "list"] H Q := ⟨_, .ty "list", .type "int", .type "list", false, rfl, .ty "list", .base (.int i), kit_ty (by decide +kernel), q⟩
theorem q_int_tuple {i : Int} {K : PySem.W.Frag} {H : Hp} {Q : VK} (q : Q (.bl false) H) : rIsi K [.int i, .ty "tuple"] H Q := ⟨_, .ty "tuple", .type "int", .type "tuple", false, rfl, .ty "tuple", .base (.int i), kit_ty (by decide +kernel), q⟩
theorem q_int_dict {i : Int} {K : PySem.W.Frag} {H : Hp} {Q : VK} (q : Q (.bl false) H) : rIsi K [.int i, .ty "dict"] H Q := ⟨_, .ty "dict", .type "int", .type "dict", false, rfl, .ty "dict", .base (.int i), kit_ty (by decide +kernel), q⟩
theorem q_bool_int {b : Bool} {K : PySem.W.Frag} {H : Hp} {Q : VK} (q : Q (.bl true) H) : rIsi K [.bl b, .ty "int"] H Q := ⟨_, .ty "int", .type "bool", .type "int", true, rfl, .ty "int", .base (.bl b), kit_ty (by decide +kernel), q⟩
theorem q_bool_bool {b : Bool} {K : PySem.W.Frag} {H : Hp} {Q : VK} (q : Q (.bl true) H) : rIsi K [.bl b, .ty "bool"] H Q := ⟨_, .ty "bool", .type "bool", .type "bool", true, rfl, .ty "bool", .base (.bl b), kit_ty (by decide +kernel), q⟩
theorem q_bool_str {b : Bool} {K : PySem.W.Frag} {H : Hp} {Q : VK} (q : Q (.bl false) H) : rIsi K [.bl b, .ty "str"] H Q := ⟨_, .ty "str", .type "bool", .type "str", false, rfl, .ty "str", .base (.bl b), kit_ty (by decide +kernel), q⟩
theorem q_bool_list {b : Bool} {K : PySem.W.Frag} {H : Hp} {Q : VK} (q : Q (.bl false) H) : rIsi K [.bl b, .ty "list"] H Q := ⟨_, .ty "list", .type "bool", .type "list", false, rfl, .ty "list", .base (.bl b), kit_ty (by decide +kernel), q⟩
theorem q_bool_tuple {b : Bool} {K : PySem.W.Frag} {H : Hp} {Q : VK} (q : Q (.bl false) H) : rIsi K [.bl b, .ty "tuple"] H Q := ⟨_, .ty "tuple", .type "bool", .type "tuple", false, rfl, .ty "tuple", .base (.bl b), kit_ty (by decide +kernel), q⟩
theorem q_bool_dict {b : Bool} {K : PySem.W.Frag} {H : Hp} {Q : VK} (q : Q (.bl false) H) : rIsi K [.bl b, .ty "dict"] H Q := ⟨_, .ty "dict", .type "bool", .type "dict", false, rfl, .ty "dict", .base (.bl b), kit_ty (by decide +kernel), q⟩
theorem q_str_int {x : Str} {K : PySem.W.Frag} {H : Hp} {Q : VK} (q : Q (.bl false) H) : rIsi K [.str x, .ty "int"] H Q := ⟨_, .ty "int", .type "str", .type "int", false, rfl, .ty "int", .base (.str x), kit_ty (by decide +kernel), q⟩
theorem q_str_bool {x : Str} {K : PySem.W.Frag} {H : Hp} {Q : VK} (q : Q (.bl false) H) : rIsi K [.str x, .ty "bool"] H Q := ⟨_, .ty "bool", .type "str", .type "bool", false, rfl, .ty "bool", .base (.str x), kit_ty (by decide +kernel), q⟩
theorem q_str_str {x : Str} {K : PySem.W.Frag} {H : Hp} {Q : VK} (q : Q (.bl true) H) : rIsi K [.str x, .ty "str"] H Q := ⟨_, .ty "str", .type "str", .type "str", true, rfl, .ty "str", .base (.str x), kit_ty (by decide +kernel), q⟩
theorem q_str_list {x : Str} {K : PySem.W.Frag} {H : Hp} {Q : VK} (q : Q (.bl false) H) : rIsi K [.str x, .ty "list"] H Q := ⟨_, .ty "list", .type "str", .type "list", false, rfl, .ty "list", .base (.str x), kit_ty (by decide +kernel), q⟩
theorem q_str_tuple {x : Str} {K : PySem.W.Frag} {H : Hp} {Q : VK} (q : Q (.bl false) H) : rIsi K [.str x, .ty "tuple"] H Q := ⟨_, .ty "tuple", .type "str", .type "tuple", false, rfl, .ty "tuple", .base (.str x), kit_ty (by decide +kernel), q⟩
theorem q_str_dict {x : Str} {K : PySem.W.Frag} {H : Hp} {Q : VK} (q : Q (.bl false) H) : rIsi K [.str x, .ty "dict"] H Q := ⟨_, .ty "dict", .type "str", .type "dict", false, rfl, .ty "dict", .base (.str x), kit_ty (by decide +kernel), q⟩
theorem q_NoneType_int  {K : PySem.W.Frag} {H : Hp} {Q : VK} (q : Q (.bl false) H) : rIsi K [.non, .ty "int"] H Q := ⟨_, .ty "int", .type "NoneType", .type "int", false, rfl, .ty "int", .base .non, kit_ty (by decide +kernel), q⟩
theorem q_NoneType_bool  {K : PySem.W.Frag} {H : Hp} {Q : VK} (q : Q (.bl false) H) : rIsi K [.non, .ty "bool"] H Q := ⟨_, .ty "bool", .type "NoneType", .type "bool", false, rfl, .ty "bool", .base .non, kit_ty (by decide +kernel), q⟩
theorem q_NoneType_str  {K : PySem.W.Frag} {H : Hp} {Q : VK} (q : Q (.bl false) H) : rIsi K [.non, .ty "str"] H Q := ⟨_, .ty "str", .type "NoneType", .type "str", false, rfl, .ty "str", .base .non, kit_ty (by decide +kernel), q⟩
theorem q_NoneType_list  {K : PySem.W.Frag} {H : Hp} {Q : VK} (q : Q (.bl false) H) : rIsi K [.non, .ty "list"] H Q := ⟨_, .ty "list", .type "NoneType", .type "list", false, rfl, .ty "list", .base .non, kit_ty (by decide +kernel), q⟩
theorem q_NoneType_tuple  {K : PySem.W.Frag} {H : Hp} {Q : VK} (q : Q (.bl false) H) : rIsi K [.non, .ty "tuple"] H Q := ⟨_, .ty "tuple", .type "NoneType", .type "tuple", false, rfl, .ty "tuple", .base .non, kit_ty (by decide +kernel), q⟩
theorem q_NoneType_dict  {K : PySem.W.Frag} {H : Hp} {Q : VK} (q : Q (.bl false) H) : rIsi K [.non, .ty "dict"] H Q := ⟨_, .ty "dict", .type "NoneType", .type "dict", false, rfl, .ty "dict", .base .non, kit_ty (by decide +kernel), q⟩
theorem q_list_int {p : Addr} {xs : List V} {K : PySem.W.Frag} {H : Hp} {Q : VK} (h : H p = some (.lst xs)) (q : Q (.bl false) H) : rIsi K [.ref p, .ty "int"] H Q := ⟨_, .ty "int", .type "list", .type "int", false, rfl, .ty "int", .base (.lst h), kit_ty (by decide +kernel), q⟩
theorem q_list_bool {p : Addr} {xs : List V} {K : PySem.W.Frag} {H : Hp} {Q : VK} (h : H p = some (.lst xs)) (q : Q (.bl false) H) : rIsi K [.ref p, .ty "bool"] H Q := ⟨_, .ty "bool", .type "list", .type "bool", false, rfl, .ty "bool", .base (.lst h), kit_ty (by decide +kernel), q⟩
theorem q_list_str {p : Addr} {xs : List V} {K : PySem.W.Frag} {H : Hp} {Q : VK} (h : H p = some (.lst xs)) (q : Q (.bl false) H) : rIsi K [.ref p, .ty "str"] H Q := ⟨_, .ty "str", .type "list", .type "str", false, rfl, .ty "str", .base (.lst h), kit_ty (by decide +kernel), q⟩
theorem q_list_list {p : Addr} {xs : List V} {K : PySem.W.Frag} {H : Hp} {Q : VK} (h : H p = some (.lst xs)) (q : Q (.bl true) H) : rIsi K [.ref p, .ty "list"] H Q := ⟨_, .ty "list", .type "list", .type "list", true, rfl, .ty "list", .base (.lst h), kit_ty (by decide +kernel), q⟩
theorem q_list_tuple {p : Addr} {xs : List V} {K : PySem.W.Frag} {H : Hp} {Q : VK} (h : H p = some (.lst xs)) (q : Q (.bl false) H) : rIsi K [.ref p, .ty "tuple"] H Q := ⟨_, .ty "tuple", .type "list", .type "tuple", false, rfl, .ty "tuple", .base (.lst h), kit_ty (by decide +kernel), q⟩
theorem q_list_dict {p : Addr} {xs : List V} {K : PySem.W.Frag} {H : Hp} {Q : VK} (h : H p = some (.lst xs)) (q : Q (.bl false) H) : rIsi K [.ref p, .ty "dict"] H Q := ⟨_, .ty "dict", .type "list", .type "dict", false, rfl, .ty "dict", .base (.lst h), kit_ty (by decide +kernel), q⟩
theorem q_tuple_int {p : Addr} {xs : List V} {K : PySem.W.Frag} {H : Hp} {Q : VK} (h : H p = some (.tup xs)) (q : Q (.bl false) H) : rIsi K [.ref p, .ty "int"] H Q := ⟨_, .ty "int", .type "tuple", .type "int", false, rfl, .ty "int", .base (.tup h), kit_ty (by decide +kernel), q⟩
theorem q_tuple_bool {p : Addr} {xs : List V} {K : PySem.W.Frag} {H : Hp} {Q : VK} (h : H p = some (.tup xs)) (q : Q (.bl false) H) : rIsi K [.ref p, .ty "bool"] H Q := ⟨_, .ty "bool", .type "tuple", .type "bool", false, rfl, .ty "bool", .base (.tup h), kit_ty (by decide +kernel), q⟩
theorem q_tuple_str {p : Addr} {xs : List V} {K : PySem.W.Frag} {H : Hp} {Q : VK} (h : H p = some (.tup xs)) (q : Q (.bl false) H) : rIsi K [.ref p, .ty "str"] H Q := ⟨_, .ty "str", .type "tuple", .type "str", false, rfl, .ty "str", .base (.tup h), kit_ty (by decide +kernel), q⟩
theorem q_tuple_list {p : Addr} {xs : List V} {K : PySem.W.Frag} {H : Hp} {Q : VK} (h : H p = some (.tup xs)) (q : Q (.bl false) H) : rIsi K [.ref p, .ty "list"] H Q := ⟨_, .ty "list", .type "tuple", .type "list", false, rfl, .ty "list", .base (.tup h), kit_ty (by decide +kernel), q⟩
theorem q_tuple_tuple {p : Addr} {xs : List V} {K : PySem.W.Frag} {H : Hp} {Q : VK} (h : H p = some (.tup xs)) (q : Q (.bl true) H) : rIsi K [.ref p, .ty "tuple"] H Q := ⟨_, .ty "tuple", .type "tuple", .type "tuple", true, rfl, .ty "tuple", .base (.tup h), kit_ty (by decide +kernel), q⟩
theorem q_tuple_dict {p : Addr} {xs : List V} {K : PySem.W.Frag} {H : Hp} {Q : VK} (h : H p = some (.tup xs)) (q : Q (.bl false) H) : rIsi K [.ref p, .ty "dict"] H Q := ⟨_, .ty "dict", .type "tuple", .type "dict", false, rfl, .ty "dict", .base (.tup h), kit_ty (by decide +kernel), q⟩
theorem q_dict_int {p : Addr} {xs : List (Key × V)} {K : PySem.W.Frag} {H : Hp} {Q : VK} (h : H p = some (.dK xs)) (q : Q (.bl false) H) : rIsi K [.ref p, .ty "int"] H Q := ⟨_, .ty "int", .type "dict", .type "int", false, rfl, .ty "int", .base (.dK h), kit_ty (by decide +kernel), q⟩
theorem q_dict_bool {p : Addr} {xs : List (Key × V)} {K : PySem.W.Frag} {H : Hp} {Q : VK} (h : H p = some (.dK xs)) (q : Q (.bl false) H) : rIsi K [.ref p, .ty "bool"] H Q := ⟨_, .ty "bool", .type "dict", .type "bool", false, rfl, .ty "bool", .base (.dK h), kit_ty (by decide +kernel), q⟩
theorem q_dict_str {p : Addr} {xs : List (Key × V)} {K : PySem.W.Frag} {H : Hp} {Q : VK} (h : H p = some (.dK xs)) (q : Q (.bl false) H) : rIsi K [.ref p, .ty "str"] H Q := ⟨_, .ty "str", .type "dict", .type "str", false, rfl, .ty "str", .base (.dK h), kit_ty (by decide +kernel), q⟩
theorem q_dict_list {p : Addr} {xs : List (Key × V)} {K : PySem.W.Frag} {H : Hp} {Q : VK} (h : H p = some (.dK xs)) (q : Q (.bl false) H) : rIsi K [.ref p, .ty "list"] H Q := ⟨_, .ty "list", .type "dict", .type "list", false, rfl, .ty "list", .base (.dK h), kit_ty (by decide +kernel), q⟩
theorem q_dict_tuple {p : Addr} {xs : List (Key × V)} {K : PySem.W.Frag} {H : Hp} {Q : VK} (h : H p = some (.dK xs)) (q : Q (.bl false) H) : rIsi K [.ref p, .ty "tuple"] H Q := ⟨_, .ty "tuple", .type "dict", .type "tuple", false, rfl, .ty "tuple", .base (.dK h), kit_ty (by decide +kernel), q⟩
theorem q_dict_dict {p : Addr} {xs : List (Key × V)} {K : PySem.W.Frag} {H : Hp} {Q : VK} (h : H p = some (.dK xs)) (q : Q (.bl true) H) : rIsi K [.ref p, .ty "dict"] H Q := ⟨_, .ty "dict", .type "dict", .type "dict", true, rfl, .ty "dict", .base (.dK h), kit_ty (by decide +kernel), q⟩

/-! ### loops -/
section
variable {K : PySem.W.Frag} {σ : L2.St} {H : Hp} {D : Ends} {g : TG} {tb : TS} {te : TE} {tr : TA} {c : TT}
/-! mono of tests -/
def MonoE (te : TE) : Prop := ∀ σ H (Q Q' : VK), (∀ v H1, Q v H1 → Q' v H1) → te σ H Q → te σ H Q'
def MonoT (t : TT) : Prop := ∀ σ H (Q Q' : Bool → Hp → Prop), (∀ b H1, Q b H1 → Q' b H1) → t σ H Q → t σ H Q'
def MonoR (r : R2) : Prop := ∀ x y H (Q Q' : VK), (∀ v H1, Q v H1 → Q' v H1) → r x y H Q → r x y H Q'
theorem m_var {n : Nat} : MonoE (tVar n) := fun _ _ _ _ f ⟨v, e, q⟩ => ⟨v, e, f _ _ q⟩
theorem m_c {v : V} : MonoE (tC v) := fun _ _ _ _ f q => f _ _ q
theorem m_op {r : R2} {ta tb : TE} (ha : MonoE ta) (hb : MonoE tb) (hr : MonoR r) : MonoE (tOp r ta tb) := fun _ _ _ _ f q => ha _ _ _ _ (fun _ _ q => hb _ _ _ _ (fun _ _ q => hr _ _ _ _ _ f q) q) q
theorem m_I0 {g : Int → Int → V} : MonoR (rI0 g) := fun _ _ _ _ _ f ⟨i, j, e1, e2, q⟩ => ⟨i, j, e1, e2, f _ _ q⟩
theorem m_eq : MonoR rEq := fun _ _ _ _ _ f ⟨h, q⟩ => ⟨h, f _ _ q⟩
theorem m_ne : MonoR rNe := fun _ _ _ _ _ f ⟨h, q⟩ => ⟨h, f _ _ q⟩
theorem m_eqP {K : PySem.W.Frag} : MonoR (rEqP K) := fun _ _ _ _ _ f h => h.elim (fun ⟨h, q⟩ => .inl ⟨h, f _ _ q⟩) fun ⟨d, e, h1, h2, h3, h4, q⟩ => .inr ⟨d, e, h1, h2, h3, h4, f _ _ q⟩
theorem m_neP {K : PySem.W.Frag} : MonoR (rNeP K) := fun _ _ _ _ _ f h => h.elim (fun ⟨h, q⟩ => .inl ⟨h, f _ _ q⟩) fun ⟨d, e, h1, h2, h3, h4, q⟩ => .inr ⟨d, e, h1, h2, h3, h4, f _ _ q⟩
theorem m_gt : MonoR rGtI := m_I0
theorem m_lt : MonoR rLtI := m_I0
theorem m_ge : MonoR rGeI := m_I0
theorem m_le : MonoR rLeI := m_I0
theorem m_test {te : TE} (h : MonoE te) : MonoT (tTest te) := fun _ _ _ _ f q => h _ _ _ _ (fun _ _ ⟨k, e, q⟩ => ⟨k, e, f _ _ q⟩) q
theorem m_or {t u : TT} (h : MonoT t) (h2 : MonoT u) : MonoT (tOr t u) := fun σ H Q Q' f q => h _ _ _ _ (fun b H1 q => by
  cases b with
  | true =>
    rw [if_pos rfl] at q ⊢
    exact f _ _ q
  | false =>
    rw [if_neg Bool.false_ne_true] at q ⊢
    exact h2 _ _ _ _ f q) q
theorem m_and {t u : TT} (h : MonoT t) (h2 : MonoT u) : MonoT (tAnd t u) := fun σ H Q Q' f q => h _ _ _ _ (fun b H1 q => by
  cases b with
  | true =>
    rw [if_pos rfl] at q ⊢
    exact h2 _ _ _ _ f q
  | false =>
    rw [if_neg Bool.false_ne_true] at q ⊢
    exact f _ _ q) q
/-- while: an invariant, a measure; the test's reading must not look at what is wanted -/
theorem r_while (Pv : Nat → L2.St → Hp → Prop) (m : Nat) (mono : MonoT c) (h0 : Pv m σ H)
    (hs : ∀ m σ H, Pv m σ H → c σ H fun b H1 => if b = true then tb { D with nx := fun σ' H' => ∃ m', m' < m ∧ Pv m' σ' H', ct := fun σ' H' => ∃ m', m' < m ∧ Pv m' σ' H', bk := D.nx } σ H1 else D.nx σ H1) : tWhile c tb D σ H := by
  refine ⟨fun m σ H => Pv m σ H, ⟨m, h0⟩, fun m σ H p => ?_⟩
  refine mono σ H _ _ (fun b H1 q => ?_) (hs m σ H p)
  cases b with
  | true => exact ⟨_, fun σ' H' h => h, q⟩
  | false => exact q
end

/-! ### what is walked -/
section
variable {K : PySem.W.Frag} {σ : L2.St} {H : Hp} {te : TE} {tr : TA} {R : It → Hp → Prop}
theorem s_L {p : Addr} {xs : List V} (h : SqL K H p xs) (q : R (Itl K p) H) : ∃ a, V.ref p = .ref a ∧ (∃ xs, SqL K H a xs) ∧ R (Itl K a) H := ⟨p, rfl, ⟨xs, h⟩, q⟩
theorem s_T {p : Addr} {xs : List V} (h : SqT K H p xs) (q : R (Itt K p) H) : ∃ a, V.ref p = .ref a ∧ (∃ xs, SqT K H a xs) ∧ R (Itt K a) H := ⟨p, rfl, ⟨xs, h⟩, q⟩
theorem s_S {z : Str} (q : R (Its z) H) : ∃ x, V.str z = .str x ∧ R (Its x) H := ⟨z, rfl, q⟩
theorem s_R1 {n : Int} (q : R (Itr 0 n.toNat) H) (h : -(2 ^ 62) ≤ n ∧ n < 2 ^ 62) : ∃ j : Int, [V.int n] = [.int j] ∧ -(2 ^ 62) ≤ j ∧ j < 2 ^ 62 ∧ R (Itr 0 j.toNat) H := ⟨n, rfl, h.1, h.2, q⟩
theorem s_R2 {m n : Int} (q : R (Itr m (n - m).toNat) H) (h : -(2 ^ 62) ≤ m ∧ m < 2 ^ 62 ∧ -(2 ^ 62) ≤ n ∧ n < 2 ^ 62) : ∃ i j : Int, [V.int m, .int n] = [.int i, .int j] ∧ (-(2 ^ 62) ≤ i ∧ i < 2 ^ 62 ∧ -(2 ^ 62) ≤ j ∧ j < 2 ^ 62) ∧ R (Itr i (j - i).toNat) H := ⟨m, n, rfl, h, q⟩
theorem s_E {p : Addr} {xs : List V} (h : SqL K H p xs) (q : R (Ite K p) H) : ∃ a xs, [V.ref p] = [.ref a] ∧ SqL K H a xs ∧ R (Ite K a) H := ⟨p, xs, rfl, h, q⟩
theorem s_Z {p r : Addr} {xs ys : List V} (h : SqL K H p xs) (h2 : SqL K H r ys) (q : R (Itz K p r) H) : ∃ a b xs ys, [V.ref p, .ref r] = [.ref a, .ref b] ∧ SqL K H a xs ∧ SqL K H b ys ∧ R (Itz K a b) H := ⟨p, r, xs, ys, rfl, h, h2, q⟩
theorem i_L (q : te σ H fun x H1 => ∃ a, x = .ref a ∧ (∃ xs, SqL K H1 a xs) ∧ R (Itl K a) H1) : iList K te σ H R := q
theorem i_T (q : te σ H fun x H1 => ∃ a, x = .ref a ∧ (∃ xs, SqT K H1 a xs) ∧ R (Itt K a) H1) : iTup K te σ H R := q
theorem i_S (q : te σ H fun v H1 => ∃ x, v = .str x ∧ R (Its x) H1) : iStr te σ H R := q
theorem i_R1 (q : tr σ H fun vs H1 => ∃ j : Int, vs = [.int j] ∧ -(2 ^ 62) ≤ j ∧ j < 2 ^ 62 ∧ R (Itr 0 j.toNat) H1) : iRng1 tr σ H R := q
theorem i_R2 (q : tr σ H fun vs H1 => ∃ i j : Int, vs = [.int i, .int j] ∧ (-(2 ^ 62) ≤ i ∧ i < 2 ^ 62 ∧ -(2 ^ 62) ≤ j ∧ j < 2 ^ 62) ∧ R (Itr i (j - i).toNat) H1) : iRng2 tr σ H R := q
theorem i_E (q : tr σ H fun vs H1 => ∃ a xs, vs = [.ref a] ∧ SqL K H1 a xs ∧ R (Ite K a) H1) : iEnum K tr σ H R := q
theorem i_Z (q : tr σ H fun vs H1 => ∃ a b xs ys, vs = [.ref a, .ref b] ∧ SqL K H1 a xs ∧ SqL K H1 b ys ∧ R (Itz K a b) H1) : iZip K tr σ H R := q
end
section
variable {σ : L2.St} {H : Hp} {Q : VK} {g : TG} {te : TE} {tt : TT} {tb : TS} {wi : TI} {vs : List Nat} {D : Ends} {J : It} {n : Nat} {G : Hp → Prop} {Y : Nat → Hp → V → Hp → Prop}
theorem walk_r0 {n : Nat} : Walk (Itr 0 n) n (fun _ => True) (fun i H x H' => H' = H ∧ x = .int (i : Nat)) := walk_range.mono (fun _ h => h) fun i H x H' _ _ y => ⟨y.1, y.2.trans (congrArg V.int (Int.zero_add _))⟩
/-- what a for asks of the iterator -/
def ForQ (σ : L2.St) (g : TG) (tb : TS) (D : Ends) : It → Hp → Prop := fun J H1 => ∃ W : Nat → Nat → L2.St → Hp → Prop, (∃ m, W 0 m σ H1) ∧ ∀ i m σ H, W i m σ H →
      (J.stop i H ∧ D.nx σ H) ∨ (J.go i H ∧ ∃ N : L2.St → Hp → Prop, (∀ σ' H', N σ' H' → ∃ m', m' < m ∧ W (i + 1) m' σ' H') ∧ ∀ x H', J.yld i H x H' → g x σ H' fun σ2 H2 => tb { D with nx := N, ct := N, bk := D.nx } σ2 H2)
theorem r_for (q : wi σ H (ForQ σ g tb D)) : tFor wi g tb D σ H := q
theorem forW (w : Walk J n G Y) (Pv : Nat → L2.St → Hp → Prop) (h0 : Pv 0 σ H) (hG : ∀ i σ H, i ≤ n → Pv i σ H → G H)
    (hs : ∀ i x σ H H', i < n → Pv i σ H → Y i H x H' → g x σ H' fun σ2 H2 => tb { D with nx := Pv (i + 1), ct := Pv (i + 1), bk := D.nx } σ2 H2) (hd : ∀ σ H, Pv n σ H → D.nx σ H) : ForQ σ g tb D J H := for_it w Pv h0 hG hs hd
/-- what a comprehension asks -/
def LcQ (σ : L2.St) (g : TG) (tt : TT) (te : TE) (vs : List Nat) (Q : VK) : It → Hp → Prop := fun J H1 => ∀ D, H1 D = none → ∃ W : Nat → Nat → Hp → Prop, (∃ m, W 0 m (upd H1 D (.lst []))) ∧ ∀ i m H, W i m H →
  (J.stop i H ∧ Q (.ref D) H) ∨ (J.go i H ∧ ∃ Nx : Hp → Prop, (∀ H', Nx H' → ∃ m', m' < m ∧ W (i + 1) m' H') ∧ ∀ x H', J.yld i H x H' → g x (wipe σ vs) H' fun σ2 H2 => wipe σ2 vs = wipe σ vs ∧ tt σ2 H2 fun b H3 =>
    if b = true then te σ2 H3 fun y H4 => ∃ acc, H4 D = some (.lst acc) ∧ acc.length < sizeLine ∧ Nx (upd H4 D (.lst (acc ++ [y]))) else Nx H3)
theorem r_lc (q : wi σ H (LcQ σ g tt te vs Q)) : tLc wi g tt te vs σ H Q := q
/-- between the turns: the new list at Dl holds acc, R of it; the heap ahead stands -/
def LcI (H : Hp) (Dl : Addr) (R : Nat → List V → Hp → Prop) (i : Nat) (H' : Hp) : Prop := ∃ acc : List V, acc.length ≤ i ∧ Same H H' ∧ H' Dl = some (.lst acc) ∧ R i acc H'
/-- .. behind the element -/
def LcP (H : Hp) (Dl : Addr) (R : Nat → List V → Hp → Prop) (i : Nat) (y : V) (H4 : Hp) : Prop := ∃ acc, H4 Dl = some (.lst acc) ∧ acc.length < sizeLine ∧ LcI H Dl R i (upd H4 Dl (.lst (acc ++ [y])))
theorem lcW (w : Walk J n G Y) (R : Nat → List V → Hp → Prop) (hw : wipe σ vs = σ) (hG : ∀ H', Same H H' → G H') (h0 : ∀ H', Same H H' → R 0 [] H')
    (hs : ∀ i x acc Dl H' H'', i < n → H Dl = none → Same H H' → H' Dl = some (.lst acc) → acc.length ≤ i → R i acc H' → Y i H' x H'' → g x σ H'' fun σ2 H2 => wipe σ2 vs = σ ∧ tt σ2 H2 fun b H3 =>
      if b = true then te σ2 H3 (LcP H Dl R (i + 1)) else LcI H Dl R (i + 1) H3)
    (hd : ∀ acc Dl H', H Dl = none → Same H H' → H' Dl = some (.lst acc) → R n acc H' → Q (.ref Dl) H') : LcQ σ g tt te vs Q J H := by
  intro Dl hD
  rw [hw]
  refine Eq.mp (by rw [hw]) (lc_it (σ := σ) (vs := vs) (g := g) (tt := tt) (te := te) (H1 := H) (D := Dl) (Qd := fun H' => Q (.ref Dl) H') w (LcI H Dl R) ⟨[], Nat.le_refl _, Same.new hD, upd_same, h0 _ (Same.new hD)⟩ (fun i H' _ ⟨_, _, e, _⟩ => hG H' e) (fun i x H' H'' hi ⟨acc, hl, e, ed, r⟩ y => ?_) fun H' ⟨acc, _, e, ed, r⟩ => hd acc Dl H' hD e ed r)
  rw [hw]
  exact hs i x acc Dl H' H'' hi hD e ed hl r y
theorem lc_put {Dl : Addr} {R : Nat → List V → Hp → Prop} {i : Nat} {y : V} {acc : List V} {H4 : Hp} (hi : i < 16777216) (hD : H Dl = none) (e : Same H H4) (h : H4 Dl = some (.lst acc)) (hl : acc.length ≤ i)
    (r : ∀ H5, But Dl H4 H5 → Same H H5 → R (i + 1) (acc ++ [y]) H5) : LcP H Dl R (i + 1) y H4 :=
  ⟨acc, h, szlt (by omega), acc ++ [y], by rw [List.length_append]; exact Nat.succ_le_succ hl, Same.but But.upd hD e, upd_same, r _ But.upd (Same.but But.upd hD e)⟩
theorem lc_skip {Dl : Addr} {R : Nat → List V → Hp → Prop} {i : Nat} {acc : List V} {H4 : Hp} (e : Same H H4) (h : H4 Dl = some (.lst acc)) (hl : acc.length ≤ i) (r : R (i + 1) acc H4) : LcI H Dl R (i + 1) H4 := ⟨acc, by omega, e, h, r⟩
theorem r_yes {QB : Bool → Hp → Prop} (q : QB true H) : tYes σ H QB := q
theorem r_wipe {σ' : L2.St} {B : Prop} (h : wipe σ' vs = σ) (q : B) : wipe σ' vs = σ ∧ B := ⟨h, q⟩
end
end Z

/-! Ze: own exception classes: made, raised, caught, kept, asked. -/
namespace Z
open PySem PySem.Spec PyProof.Rows L2

/-! ### a field of an f-string: None too -/
def rFmtN : V → Hp → VK → Prop := fun x H1 Q => (∃ y : Str, x = .str y ∧ y.length ≤ sizeLine ∧ Q (.str y) H1) ∨ (∃ i : Int, x = .int i ∧ i.natAbs.log2 < 1920 ∧ Q (.str (toString i)) H1) ∨ (x = .non ∧ Q (.str "None") H1)
def tFmtN (te : TE) : TE := fun σ H Q => te σ H fun x H1 => rFmtN x H1 Q
theorem pe_fmtN {X : Cx} {e : Expr} {te : TE} {pos : Pos} (he : PE X e te) : PE X (.FormattedValue e (-1) none pos) (tFmtN te) := by
  refine ⟨fun pins s σ H Q I h => ?_⟩
  refine wpAny_FormattedValue_plain (thn (he.run pins s σ H _ I h) fun v s1 hv => ?_)
  obtain ⟨x, H1, I1, r1, q⟩ := hv
  rcases q with ⟨y, rfl, hz, q⟩ | ⟨i, rfl, hz, q⟩ | ⟨rfl, q⟩
  · obtain ⟨t, rfl⟩ := r1
    exact wpAny_formatField_str ⟨.str y, H1, I1, ⟨t, rfl⟩, q⟩ ⟨.str y, H1, I1.tok _, ⟨_, rfl⟩, q⟩ hz
  · obtain ⟨t, rfl⟩ := r1
    exact wpAny_formatField_int hz ⟨.str (toString i), H1, I1.tok _, ⟨_, rfl⟩, q⟩
  · obtain rfl : v = Value.none := r1
    exact wpAny_formatField_none ⟨.str "None", H1, I1.tok _, ⟨_, rfl⟩, q⟩

/-! ### str(n) -/
theorem r_strN {n : Nat} {H : Hp} {Q : VK} (q : Q (.str (SX.S (TL.numL n))) H) (h : n < 10 ^ 60) : cStr [.int (n : Int)] H Q := by
  refine Z.r_strI ?_ ?_
  · rw [SX.num_S]
    exact q
  · by_cases h0 : n = 0
    · rw [h0]
      decide
    · have h2 : (10 : Nat) ^ 60 < 2 ^ 1920 := by decide +kernel
      exact (Nat.log2_lt (by omega)).mpr (by rw [Int.natAbs_natCast]; exact Nat.lt_trans h h2)
/-! ### a text so many times -/
def rMulS : R2 := fun x y H Q => ∃ (z : Str) (n : Int), x = .str z ∧ y = .int n ∧ PySem.MulOk z n ∧ Q (.str (Txt.mul z n)) H
theorem op_mulS {X : Cx} : OpR X (binaryOp .Mult) rMulS := by
  intro pins s σ H x y v u Q I rx ry h
  obtain ⟨z, n, rfl, rfl, hc, q⟩ := h
  obtain ⟨t, rfl⟩ := (show ∃ t, v = Value.str z t from rx)
  obtain ⟨t2, rfl⟩ := (show ∃ t, u = Value.int n t from ry)
  exact PySem.SB.mul hc fun t' k => ⟨.str (Txt.mul z n), H, I.tok k, ⟨t', rfl⟩, q⟩
theorem r_mulS {z : Str} {n : Int} {H : Hp} {Q : VK} (q : Q (.str (Txt.mul z n)) H) (h : PySem.MulOk z n) : rMulS (.str z) (.int n) H Q := ⟨z, n, rfl, rfl, h, q⟩
/-! ### D.__init__(self, ..), D an own class over ValueError without own __init__ -/
structure DearC (K : PySem.W.Frag) (D : Addr) : Prop where
  rd : PySem.W.readsIn K D (.type "type") = true
  ga : PySem.W.specialIn K (.ref D) "__getattribute__" = some (some (.builtin "type.__getattribute__"))
  at_ : PySem.W.findCls K (.ref D) (.type "type") "__init__" = some (.val (.builtin "ValueError.__init__"))
theorem pe_dearI {X : Cx} {x : Str} {D : Addr} {e : Expr} {es : List Expr} {ta : TA} {p1 p2 pos : Pos} {pl : Sem Bool} (hg : Gl X x) (hm : X.mg x = some (.ref D)) (C : DearC X.K D) (ha : PA X (e :: es) ta)
    (hdb : (x == ("__debug__" : Str)) = false := by decide)
    (hc : eval (.Call (.Attribute (.Name x p1) "__init__" p2) (e :: es) [] pos) X.env = (do
      let ov ← eval (.Name x p1) X.env
      standAt p2.atName
      let (f, first) ← holding [ov] (getMethod ov "__init__" pl)
      callWith pos f first (backTo pos (starEach (e :: es) X.env)) (backToKw pos (keywordEach [] X.env))) := by rfl)
    (he : starEach (e :: es) X.env = (false, eval e X.env) :: starEach es X.env := by rfl) (hpl : (backTo pos (starEach es X.env)).any (·.1) = false := by rfl) :
    PE X (.Call (.Attribute (.Name x p1) "__init__" p2) (e :: es) [] pos) (tVeI X.K ta) := by
  refine ⟨fun pins s σ H Q I h => ?_⟩
  refine PySem.W.methodCall_KW (ld_glob I hg hm ?_ hdb) hc
  refine PySem.W.method_cls I.kIn C.ga (PySem.W.cls_value I.kIn C.rd C.at_ rfl ?_)
  show wpAny _ _ (callWith pos (Value.builtin "ValueError.__init__") [] (backTo pos (starEach (e :: es) X.env)) []) _ _ _
  refine PyProof.Rows.callWith_method1 (thn (ha.run pos pins _ σ H _ (I.tok _) h) fun us s1 ⟨vs, H1, I1, r1, a, C, ws, ev, hl, T, ea, q⟩ => ?_) he hpl
  subst ev
  cases r1 with
  | @cons _ u0 _ ur ra rw' =>
    obtain rfl : u0 = Value.ref a := ra
    have hlen : ur.length ≤ sizeLine := by
      rw [← Paired.length rw', sizeLine_eq]
      omega
    exact oinit_ok T I1 ea hlen fun s' J => ⟨.non, H1, J, rfl, q⟩

/-! ### an exception that is kept behind the suite -/
/-- at a: an exception of the class cls, its dict d -/
def ExH (cls : Value) (d : Option Addr) (a : Addr) : HO := .ext fun h => ∃ (oe : Obj) (vs : Array Value), h.get? a = some oe ∧ Zc cls d oe ∧ oe.data = .fields vs
theorem exH_ok {P : Program} {w : World} {H : Hp} {h : Heap} {a : Addr} {cls : Value} {d : Option Addr} {oe : Obj} {vs : Array Value} (e : h.get? a = some oe) (z : Zc cls d oe) (k : oe.data = .fields vs) : ObjOk P w H h a (ExH cls d a) :=
  ⟨⟨oe, vs, e, z, k⟩, ⟨oe, e⟩, fun _ _ ⟨o, v, q, r⟩ k => ⟨o, v, k o q, r⟩⟩
section
variable {X : Cx} {pins : List (Addr × Obj)} {σ : L2.St} {H : Hp} {s : Shared}
theorem trackX {a : Addr} {o : HO} (I : Inv X pins σ H s) (n0 : X.s_0.heap.get? a = none) (hn : H a = none) (nL : a ≠ X.env.locals) (nC : ∀ x c, X.env.cells.lookup x = some c → c ≠ a) (nP : ∀ p ∈ X.pn ++ pins, p.1 ≠ a) (new : ObjOk X.prog X.w (upd H a o) s.heap a o) : Inv X pins σ (upd H a o) s := by
  have ne0 : ∀ b u, X.s_0.heap.get? b = some u → b ≠ a := fun b u e z => by
    rw [z, n0] at e
    cases e
  refine ⟨I.ok, I.os, I.bare, ⟨I.base.keep, I.base.slot, fun b u e n hx => ?_, I.base.there, fun b xs e => ?_, fun b u v e => ?_, fun b ps e => ?_⟩, I.loc, I.cell, ?_, fun x c e => ?_, fun p hp => ?_, ?_, I.len⟩
  · rw [upd_ne (ne0 b u e)]
    exact I.base.free b u e n hx
  · have q := I.base.tups b xs e
    rw [upd_ne (ne_of_none q hn)]
    exact q
  · have q := I.base.frzs b u v e
    rw [upd_ne (ne_of_none q hn)]
    exact q
  · obtain ⟨m, q⟩ := I.base.tbls b ps e
    exact ⟨m, by rw [upd_ne (ne_of_none q hn)]; exact q⟩
  · rw [upd_ne (Ne.symm nL)]
    exact I.free
  · rw [upd_ne (nC x c e)]
    exact I.freeC x c e
  · obtain ⟨e, n, nl, nf, d⟩ := I.pin p hp
    exact ⟨e, by rw [upd_ne (nP p hp)]; exact n, nl, nf, d⟩
  · exact L2.HOk.laidN I.hok (fun _ _ q => q) hn new
end
/-- what the clause 'except x as n' wishes of an exception of the body, kept -/
def wKeep (K : PySem.W.Frag) (c : Value) (i : Nat) (ts : Addr → Value → Option Addr → TS) (Wout : WX) (D : Ends) : WX := fun cls d σ H =>
  ∃ b, PySem.W.exmOne K cls c = some b ∧ (b = true → ∀ a, H a = none → ts a cls d { nx := fun σ' H' => D.nx (σ'.set i none) (upd H' a (ExH cls d a)), rt := fun v H' => D.rt v (upd H' a (ExH cls d a)), bk := fun σ' H' => D.bk (σ'.set i none) (upd H' a (ExH cls d a)), ct := fun σ' H' => D.ct (σ'.set i none) (upd H' a (ExH cls d a)) } (σ.set i (some (.ref a))) H) ∧
    (b = false → Wout cls d σ H)

section
variable {X : Cx} {x n : Str} {c : Value} {i : Nat} {body suite : List Stmt} {b₀ : Stmt} {np pos pos' : Pos} {tb : WX → TS} {ts : Addr → Value → Option Addr → TS} {Wout : WX}
theorem ps_keep (hs : X.stack = X.env :: X.outer) (hf : X.env.frame = some X.env.locals) (hex : X.ex = []) (hN : X.N.Nodup) (hi : X.N[i]? = some n) (hln : X.env.kindOf n = some .local) (hc : Names X x c) (tk : Takes X Wout)
    (hb : ∀ (W : WX) (pn : List (Addr × Obj)) (xe : Value → Shared → Prop), Takes (X.tr pn xe) W → PassesOwn (model X.prog X.w) X.A X.env xe → PSs (X.tr pn xe) body (tb W))
    (hsu : ∀ (a : Addr) (oe : Obj) (cls : Value) (d : Option Addr) (pn : List (Addr × Obj)), Zc cls d oe → (∃ vs, oe.data = .fields vs) → PSs (X.suite a ((a, oe) :: pn)) (b₀ :: suite) (ts a cls d)) :
    PS X (.Try body [.ExceptHandler (some (.Name x np)) (some n) (b₀ :: suite) pos'] [] [] pos) (fun D σ H => tb (wKeep X.K c i ts Wout D) D σ H) := by
  refine ⟨fun pins s σ H D I h => ?_⟩
  have ok := I.ok
  have hfr : X.A.frames = some (X.env :: X.outer) := by rw [ok.frames, hs]
  have hloc : Loc X.env.scope n := .inl hln
  refine wpAny_Try_except ?_
  refine wpAny_mono ((hb (wKeep X.K c i ts Wout D) (X.pn ++ pins) (fun e s₁ => wpAny (model X.prog X.w) X.A (noteFrame e X.env) (fun _ s₂ => wpAny (model X.prog X.w) X.A (setFlight e none) (fun _ s₃ =>
    wpAny (model X.prog X.w) X.A (handleBy e X.env [.ExceptHandler (some (.Name x np)) (some n) (b₀ :: suite) pos']) (SP X pins D) X.xe s₃) X.xe s₂) X.xe s₁) (fun u s' xx => ?_) PassesOwn.looking).run [] s σ H D (I.toTry _) h) (fun f s1 hsp => ?_) (fun e s1 he => he)
  · -- the catch
    obtain ⟨a, B, sI, pins', σ', H', cls, d, rfl, J', nb, up, sky, na, os, ag, b, hb1, hyes, hno⟩ := xx
    have J : Inv X pins σ' H' sI := J'.ofTry ok
    have sky' : Sky B (X.env :: X.outer) a (Zc cls d) X.env.locals s'.heap := by rw [← hs]; exact sky
    show wpAny (model X.prog X.w) X.A (noteFrame (.ref a) X.env) _ _ _
    refine Sky.land Zc.steady hfr hf sky' fun h3 fl3 up3 => ?_
    have J3 : Inv X pins σ' H' { s' with heap := h3 } := J.landed nb fl3.1 (up.trans up3) os ag
    obtain ⟨oe3, vs3, he3, hz3, hd3⟩ := fl3.there
    have notFr : ∀ {h : Heap} {o : Obj} {vs : Array Value}, h.FunFrames B (X.env :: X.outer) → h.get? a = some o → o.data = .fields vs → a ∉ frs (X.env :: X.outer) := fun {h o vs} ff e dd hm => by
      obtain ⟨_, o', e', hnf⟩ := ff.mem hm
      rw [e] at e'; cases e'
      exact hnf _ dd
    have nfr := notFr fl3.2.2.1 he3 hd3
    have nL : a ≠ X.env.locals := fun z => nfr (List.mem_filterMap.mpr ⟨X.env, List.mem_cons_self, by rw [hf, z]⟩)
    have nF : a ∉ X.fs := fun hm => by
      obtain ⟨e, he, q⟩ := List.mem_filterMap.mp hm
      exact nfr (List.mem_filterMap.mpr ⟨e, List.mem_cons_of_mem _ he, q⟩)
    -- new
    have nB : B.get? a = none := fl3.2.1
    have nI : sI.heap.get? a = none := by
      cases e : sI.heap.get? a with
      | none => rfl
      | some o =>
        have q := nb a o e (by rw [hs]; exact nfr)
        rw [nB] at q
        cases q
    have n0 : X.s_0.heap.get? a = none := by
      cases e : X.s_0.heap.get? a with
      | none => rfl
      | some o =>
        obtain ⟨o', q⟩ := J.base.there a o e (by rw [hex]; exact fun z => nomatch z)
        rw [nI] at q
        cases q
    have nC : ∀ x c, X.env.cells.lookup x = some c → c ≠ a := fun x c e z => by
      obtain ⟨v, o, ho, _⟩ := J.cell x c e
      rw [z, nI] at ho
      cases ho
    have nP : ∀ p ∈ X.pn ++ pins, p.1 ≠ a := fun p hp z => by
      have q := (J.pin p hp).1
      rw [z, nI] at q
      cases q
    have S3 := J3.suite he3 hd3 na nL nF
    refine wpAny_handleBy_cons (codeAny_handlers_test ?_) (by intro q; cases q)
    have LT : PySem.W.Looks (model X.prog X.w) h3 (typeOf (.ref a)) cls := fun A Q E s k q => wpAny_typeOf_ref (k _ _ he3) (by rw [hz3.1]; exact q)
    have LM := PySem.W.exm_one (M := model X.prog X.w) (J3.kIn) LT hb1
    have test : ∀ {Q : Value → Shared → Prop} {E : Value → Shared → Prop}, Q c { s' with heap := h3 } → wpAny (model X.prog X.w) (X.A.mark (some (.ref a))) (eval (.Name x np) X.env) Q E { s' with heap := h3 } := fun {Q E} q => by
      obtain ⟨hg, hdbg, hm | ⟨hm, hv, hnn⟩⟩ := hc
      · exact ld_glob (X := X.suite a ((a, oe3) :: (X.pn ++ pins))) S3 hg hm q hdbg
      · exact ld_blt (X := X.suite a ((a, oe3) :: (X.pn ++ pins))) S3 hg hm hv q hnn hdbg
    refine test (LM.here ?_)
    cases b with
    | true =>
      refine codeAny_handlers_suite_as ?_
      refine HandSPX.lands_againZ fl3 fun h4 fl4 up4 => ?_
      have J4 : Inv X pins σ' H' { s' with heap := h4 } := J.landed nb fl4.1 ((up.trans up3).trans up4) os ag
      obtain ⟨oe4, vs4, he4, hz4, hd4⟩ := fl4.there
      have S4 := J4.suite he4 hd4 na nL nF
      refine store_ok (X := X.suite a ((a, oe4) :: (X.pn ++ pins))) (v := .ref a) S4 hN hi hloc rfl (fun s5 S5 => ?_) (.inr hln)
      refine wpAny_mono ((hsu a oe4 cls d (X.pn ++ pins) hz4 ⟨_, hd4⟩).run [] s5 _ H' _ S5 (hyes rfl a na)) (fun f s6 hsp => ?_) (fun _ _ z => False.elim z)
      have end_ : ∀ {σ6 : L2.St} {H6 : Hp} {Q : Shared → Prop}, Inv (X.suite a ((a, oe4) :: (X.pn ++ pins))) [] σ6 H6 s6 → (∀ s7, Inv X pins (σ6.set i none) (upd H6 a (ExH cls d a)) s7 → Q s7) →
          wpAny (model X.prog X.w) X.A (do bindName X.env n .none; unbindBehindTheSuite X.env n pos') (fun _ s7 => Q s7) X.xe s6 := fun {σ6 H6 Q} S6 hq => gone_ok (X := X.suite a ((a, oe4) :: (X.pn ++ pins))) S6 hN hi hln fun s7 S7 => by
        obtain ⟨e7, n7, _⟩ := S7.pin (a, oe4) (List.mem_append_left _ List.mem_cons_self)
        exact hq s7 (trackX (S7.unsuite ok) n0 n7 nL nC nP (exH_ok e7 hz4 hd4))
      cases f with
      | next =>
        obtain ⟨σ6, H6, S6, q6⟩ := hsp
        exact end_ S6 fun s7 J7 => ⟨_, _, J7, q6⟩
      | brk =>
        obtain ⟨σ6, H6, S6, q6⟩ := hsp
        exact end_ S6 fun s7 J7 => ⟨_, _, J7, q6⟩
      | cont =>
        obtain ⟨σ6, H6, S6, q6⟩ := hsp
        exact end_ S6 fun s7 J7 => ⟨_, _, J7, q6⟩
      | ret u =>
        obtain ⟨v6, σ6, H6, S6, r6, q6⟩ := hsp
        exact end_ S6 fun s7 J7 => ⟨_, _, _, J7, r6, q6⟩
    | false =>
      show wpAny _ X.A (handleBy (.ref a) X.env []) _ _ _
      refine wpAny_handleBy_nil ?_
      obtain ⟨k1, k2, k3, oe, vs, T, oT, ts', he, hz, hd, h1, hr⟩ := id fl3
      unfold PySem.passOn
      refine wpAny_bind (wpAny_field he hd h1 ?_)
      rw [if_neg (show ¬ ((Value.ref T == Value.none) = true) from by simp)]
      have fin : wpAny (model X.prog X.w) X.A (setFlight (.ref a) X.env.frame) (fun _ s4 => wpAny (model X.prog X.w) X.A (throw (.ref a) : Sem Flow) (SP X pins D) X.xe s4) X.xe { s' with heap := h3 } := by
        rw [hf]
        refine HandSPX.setFlight_upZ fl3 fun h4 hh4 up4 => wpAny_throw (tk _ _ ?_)
        exact ⟨a, B, sI, pins, σ', H', cls, d, rfl, J, nb, (up.trans up3).trans up4, .inr (.inr (by rw [hs]; exact hh4)), na, os, ag, hno rfl⟩
      first
        | exact wpAny_bind (wpAny_pure (wpAny_bind fin))
        | exact wpAny_bind fin
  · cases f with
    | next =>
      obtain ⟨σ', H', J', q⟩ := hsp
      exact wpAny_execs_nil ⟨σ', H', J'.ofTry ok, q⟩
    | brk =>
      obtain ⟨σ', H', J', q⟩ := hsp
      exact ⟨σ', H', J'.ofTry ok, q⟩
    | cont =>
      obtain ⟨σ', H', J', q⟩ := hsp
      exact ⟨σ', H', J'.ofTry ok, q⟩
    | ret u =>
      obtain ⟨v, σ', H', J', r, q⟩ := hsp
      exact ⟨v, σ', H', J'.ofTry ok, r, q⟩
end

theorem r_caught {K : PySem.W.Frag} {c : Value} {i : Nat} {ts : Addr → Value → Option Addr → TS} {Wout : WX} {D : Ends} {cls : Value} {d : Option Addr} {σ : L2.St} {H : Hp} (e : PySem.W.exmOne K cls c = some true)
    (h : ∀ a, H a = none → ts a cls d { nx := fun σ' H' => D.nx (σ'.set i none) (upd H' a (ExH cls d a)), rt := fun v H' => D.rt v (upd H' a (ExH cls d a)), bk := fun σ' H' => D.bk (σ'.set i none) (upd H' a (ExH cls d a)), ct := fun σ' H' => D.ct (σ'.set i none) (upd H' a (ExH cls d a)) } (σ.set i (some (.ref a))) H) :
    wKeep K c i ts Wout D cls d σ H := ⟨true, e, fun _ => h, fun z => nomatch z⟩
/-! ### isinstance and fields of such a one -/
section
open PySem.W
variable {prog : Program} {w : World} {A : Around} {E : Value → Shared → Prop} {s : Shared} {K : Frag} {x D : Addr} {ox : Obj} {od : Option Obj}
theorem findObj_dataA {C : Addr} {name : Str} {a g : Value} (hc : (clsIn K C).isSome = true) (ha : findIn K (.ref C) name = some (some a)) (hg : specialIn K a "__get__" = some (some g)) (ht : takesIn K a = some true) : findObj K C od name = some (.bind g a) := by
  obtain ⟨cd, hc⟩ := Option.isSome_iff_exists.mp hc
  unfold findObj
  rw [hc, Option.bind_some, ha, Option.bind_some]
  simp [hg, ht]
theorem kin_classA {Q : Option Value → Shared → Prop} (C : ExcC K D)
    (X : K.In s.heap) (I : InstAt s.heap x ox D od) (h : Q (some (.ref D)) { s with toks := s.toks + 1 }) : wpAny (model prog w) A (getAttr? (.ref x) "__class__") Q E s := by
  have hf : findObj K D od "__class__" = some (.bind (.builtin "getset_descriptor.__get__") (.builtin "object.__class__")) := findObj_dataA (by obtain ⟨cd, hc, _⟩ := any_some C.hd; rw [hc]; rfl) C.ha C.hn C.ht
  obtain ⟨hp, g, d, t, os⟩ := s
  have L0 := I.type (M := model prog w)
  have L1 := looks_findIn (M := model prog w) X C.hg
  have L2 := looks_findIn (M := model prog w) X C.hk
  have L3 := looks_find (M := model prog w) X I hf
  have sub : Looks (model prog w) hp (isInstance (.ref x) (.type "BaseException")) true := L0.andThen (looks_subIn X C.hs)
  have hx0 : (false && onTheHeap (Value.builtin "BaseException.__getattribute__")) = false := rfl
  have hx2 : (Value.builtin "BaseException.__getattribute__" == Value.builtin "object.__getattribute__") = false := by decide +kernel
  have hx1 : (onTheHeap (Value.ref D) && Value.builtin "BaseException.__getattribute__" == Value.builtin "object.__getattribute__") = false := by rw [hx2]; rfl
  unfold getAttr? getAttrBy? getAttrBy
  refine wpAny_bind (wpAny_mkText (wpAny_bind (wpAny_attempt (wpAny_holding (wpAny_bind (L0.at (wpAny_bind (L1.at ?_))))))))
  show wpAny _ _ (if (onTheHeap (Value.ref D) && Value.builtin "BaseException.__getattribute__" == Value.builtin "object.__getattribute__") = true then _ else _) _ _ _
  rw [hx1, if_neg Bool.false_ne_true]
  unfold getAttrByItsOwn hookBefore
  refine wpAny_bind ?_
  rw [if_pos (show onTheHeap (Value.ref D) = true from rfl)]
  refine L2.at ?_
  refine wpAny_bind (wpAny_attempt (wpAny_holding ?_))
  unfold callGetattribute
  rw [hx0, if_neg Bool.false_ne_true]
  unfold boundAndCalled
  rw [PySem.F.excAttr_ValueError.ga.bind (.ref x)]
  refine wpAny_bind (wpAny_pure ?_)
  show wpAny _ _ (call (.builtin "BaseException.__getattribute__") [.ref x, .str "__class__" t]) _ _ _
  refine wpAny_call (codeAny_call_builtin PySem.F.excAttr_ValueError.ga.plain PySem.F.entry_bexc_ga ?_)
  refine @check_slot (model prog w) _ _ ⟨hp, g, d, t + 1, os⟩ "BaseException.__getattribute__" "BaseException" "__getattribute__" (.ref x) [.str "__class__" t] [] _ (by decide +kernel) (by decide +kernel) sub (PySem.F.args_bexc_ga (.ref x) (.str "__class__" t)) ?_
  unfold Builtin.«object.__getattribute__»
  refine wpAny_bind (wpAny_of_eq (a := ((Value.ref x : Value), [Value.str "__class__" t])) (by first | rfl | (simp only [slotArgs]; rfl)) ?_)
  refine wpAny_bind (wpAny_pure (wpAny_bind (L0.at (wpAny_bind (L3.at ?_)))))
  show wpAny _ _ (holding [Value.builtin "object.__class__"] (call (.builtin "getset_descriptor.__get__") [.builtin "object.__class__", .ref x, .ref D]) >>= ret) _ _ _
  refine wpAny_bind (wpAny_holding (wpAny_call (class_get (s := ⟨hp, g, d, t + 1, os⟩) (ox := ox) (od := od) X I C.hm ?_)))
  refine wpAny_pure ?_
  show wpAny _ _ (handedOut (.ref D)) _ _ _
  rw [handedOut_of (v := .ref D) rfl]
  first
    | exact wpAny_pure (wpAny_pure h)
    | exact wpAny_pure h
    | exact wpAny_pure (wpAny_bind (wpAny_pure (wpAny_pure h)))
theorem kitx_excA (C : ExcC K D) : KitX K (.ref x) (.ref D) (fun h => InstAt h x ox D od) where
  ty := fun _ _ _ I => I.type
  it := fun _ _ X _ => by
    obtain ⟨cdD, hcD, _⟩ := any_some C.hd
    unfold clsIn at hcD
    split at hcD
    · rename_i c' d' cd' sl' ho
      intro A' Q' E' s' k q
      unfold isType loadHead
      exact wpAny_bind (wpAny_loadPart (k _ _ (X _ _ ho)) (wpAny_pure q))
    · cases hcD
  ne := fun h tp dd its n sl X htp => by
    obtain ⟨cdD, hcD, _⟩ := any_some C.hd
    refine Bool.eq_false_iff.mpr fun q => ?_
    have e : D = tp := Value.ref.inj (beq_iff_eq.mp q)
    subst e
    unfold clsIn at hcD
    split at hcD
    · rename_i c' d' cd' sl' ho
      have z := (X _ _ ho).symm.trans htp
      cases z
    · cases hcD
  ca := fun X I k => kin_classA C X I k
end
/-- its dict is there -/
def DictV (H : Hp) (d : Option Addr) : Prop := d = none ∨ ∃ dd fs, d = some dd ∧ H dd = some (.xd fs)
theorem exH_at {X : Cx} {pins : List (Addr × Obj)} {σ : L2.St} {H : Hp} {s : Shared} {a C : Addr} {d : Option Addr} (I : Inv X pins σ H s) (h : H a = some (ExH (.ref C) d a)) (hd : DictV H d) : ∃ ox od, PySem.W.InstAt s.heap a ox C od := by
  have q : ObjOk X.prog X.w H s.heap a (.ext fun h => ∃ (oe : Obj) (vs : Array Value), h.get? a = some oe ∧ Zc (.ref C) d oe ∧ oe.data = .fields vs) := I.hok a _ h
  obtain ⟨oe, vs, ha, hz, hv⟩ := q.1
  rcases hd with rfl | ⟨dd, fs, rfl, hx⟩
  · obtain ⟨oc, od, oda, osl⟩ := oe
    obtain ⟨h1, h2⟩ := hz
    dsimp only at h1 h2 hv
    subst h1 h2 hv
    exact ⟨_, none, ha, rfl, rfl, trivial⟩
  · have hy : ObjOk X.prog X.w H s.heap dd (.xd fs) := I.hok dd _ hx
    obtain ⟨mA, hns, hr⟩ := hy
    obtain ⟨o, es, ep, ho, _⟩ := hns
    exact ⟨oe, some o, ha, hz.1, by unfold PySem.W.notCls; rw [hv] <;> rfl, by rw [hz.2]; exact ho⟩
def rIsX (K : PySem.W.Frag) : List V → Hp → VK → Prop := fun xs H Q => ∃ (a C : Addr) (d : Option Addr) (c : V) (u : Value) (b : Bool), xs = [.ref a, c] ∧ H a = some (ExH (.ref C) d a) ∧ DictV H d ∧ ExcC K C ∧ ClsV c u ∧ PySem.W.kitOne K (.ref C) u = some b ∧ Q (.bl b) H
def rIsXT (K : PySem.W.Frag) : List V → Hp → VK → Prop := fun xs H Q => ∃ (a C : Addr) (d : Option Addr) (tp : Addr) (cs : List V) (us : List Value) (b : Bool), xs = [.ref a, .ref tp] ∧ H a = some (ExH (.ref C) d a) ∧ DictV H d ∧ ExcC K C ∧ H tp = some (.tup cs) ∧ Paired ClsV cs us ∧ PySem.W.kitAny K (.ref C) us = some b ∧ Q (.bl b) H
def rIsiX (K : PySem.W.Frag) : List V → Hp → VK → Prop := fun xs H Q => rIsi K xs H Q ∨ rIsX K xs H Q
def rIsiXT (K : PySem.W.Frag) : List V → Hp → VK → Prop := fun xs H Q => rIsiT K xs H Q ∨ rIsXT K xs H Q
section
variable {X : Cx}
theorem call_isX : CallR X (.builtin "isinstance") (rIsX X.K) := by
  intro pins s σ H xs us Q I r h
  obtain ⟨a, C, d, c, u, b, rfl, ha, hd, hC, k, e, q⟩ := h
  obtain ⟨u1, u2, rfl, r1, r2⟩ := vals2 r
  have e2 := k.eq r2
  subst e2
  obtain rfl : u1 = Value.ref a := r1
  obtain ⟨ox, od, J⟩ := exH_at I ha hd
  exact PySem.W.kia_one (kitx_excA hC) I.kIn J e (fun z => nomatch z) fun tk => ⟨.bl b, H, I.tok tk, rfl, q⟩
theorem call_isXT : CallR X (.builtin "isinstance") (rIsXT X.K) := by
  intro pins s σ H xs us Q I r h
  obtain ⟨a, C, d, tp, cs, ws, b, rfl, ha, hd, hC, hT, k, e, q⟩ := h
  obtain ⟨u1, u2, rfl, r1, r2⟩ := vals2 r
  cases (show u2 = Value.ref tp from r2)
  obtain rfl : u1 = Value.ref a := r1
  obtain ⟨ox, od, J⟩ := exH_at I ha hd
  obtain ⟨_, its, rv, o, h1, h2, n, h3⟩ := (show ObjOk X.prog X.w H s.heap tp (.tup cs) from I.hok tp _ hT)
  have e3 := ClsV.all k rv
  subst e3
  obtain ⟨oc, od', dt, sl⟩ := o
  simp only at h2 h3
  subst h2 h3
  exact PySem.W.kia_tup (kitx_excA hC) I.kIn J h1 e (fun z => nomatch z) fun tk => ⟨.bl b, H, I.tok tk, rfl, q⟩
theorem call_isiX : CallR X (.builtin "isinstance") (rIsiX X.K) := fun pins s σ H xs us Q I r h => h.elim (fun h => call_isi pins s σ H xs us Q I r h) fun h => call_isX pins s σ H xs us Q I r h
theorem call_isiXT : CallR X (.builtin "isinstance") (rIsiXT X.K) := fun pins s σ H xs us Q I r h => h.elim (fun h => call_isiT pins s σ H xs us Q I r h) fun h => call_isXT pins s σ H xs us Q I r h
theorem k_isiX (K : PySem.W.Frag) (hK : X.K = K := by rfl) : CallR X (.builtin "isinstance") (rIsiX K) := hK ▸ call_isiX
theorem k_isiXT (K : PySem.W.Frag) (hK : X.K = K := by rfl) : CallR X (.builtin "isinstance") (rIsiXT K) := hK ▸ call_isiXT
/-- e.n, e such an exception -/
def tXv (K : PySem.W.Frag) (n : Str) (te : TE) : TE := fun σ H Q => te σ H fun x H1 => ∃ (a C dd : Addr) (fs : List (Str × V)) (v : V), x = .ref a ∧ H1 a = some (ExH (.ref C) (some dd) a) ∧ H1 dd = some (.xd fs) ∧ fs.lookup n = some v ∧ XfC K C ∧ PySem.W.findIn K (.ref C) n = some none ∧ Q v H1
theorem pe_xv (K : PySem.W.Frag) {e : Expr} {te : TE} {pos : Pos} {n : Str} (he : PE X e te) (hK : X.K = K := by rfl) (hb : attributeBase e n X.env (eval e X.env) = eval e X.env := by rfl) : PE X (.Attribute e n pos) (tXv K n te) := by
  subst hK
  refine ⟨fun pins s σ H Q I h => ?_⟩
  refine attr_of hb (thn (he.run pins s σ H _ I h) fun u s1 hh => ?_)
  obtain ⟨x, H1, I1, rx, a, C, dd, fs, v, ex, ha, hx, l, T, hno, q⟩ := hh
  subst ex
  obtain rfl : u = Value.ref a := rx
  have z : ObjOk X.prog X.w H1 s1.heap a (.ext fun h => ∃ (oe : Obj) (vs : Array Value), h.get? a = some oe ∧ Zc (.ref C) (some dd) oe ∧ oe.data = .fields vs) := I1.hok a _ ha
  obtain ⟨oe, vs, ho, hz, hv⟩ := z.1
  have hy : ObjOk X.prog X.w H1 s1.heap dd (.xd fs) := I1.hok dd _ hx
  obtain ⟨mA, hns, hr⟩ := hy
  obtain ⟨od, hod, hl⟩ := lookIn_ns hns
  obtain ⟨u, hu, ru⟩ := RelO.some_of (v := v) (o := mA n) (by rw [← l]; exact hr n)
  have J : PySem.W.InstAt s1.heap a oe C (some od) := ⟨ho, hz.1, by unfold PySem.W.notCls; rw [hv] <;> rfl, by rw [hz.2]; exact hod⟩
  exact HandSPX.exc_get I1.kIn J T.ga T.gg T.exC (PySem.W.findObj_own T.hdC hno rfl (by rw [hl, hu])) (handed_of ru) ⟨v, H1, I1.tok _, ru, q⟩
end

/-! ### calls of defs that may raise -/
def tCE (sp : Sp) (dvs : List V) (W : WX) (t : TA) : TE := fun σ H Q => t σ H fun vs H1 => sp (vs ++ dvs) H1 Q (WE W σ)
section
variable {X : Cx} {k j : Nat} {x : Str} {sp : Sp} {dvs : List V} {p pos : Pos} {e : Expr} {es : List Expr} {t : TA} {W : WX}
theorem pe_ce (c : Cf X.prog X.w X.K X.mg X.base (L2.CX X.prog X.w) k x sp dvs) (hr : Room j X.A) (hk : k ≤ j) (hg : Gl X x) (tk : Takes X W) (ha : PA X (e :: es) t)
    (hdb : (x == ("__debug__" : Str)) = false := by decide) (he : starEach (e :: es) X.env = (false, eval e X.env) :: starEach es X.env := by rfl) (hpl : (backTo pos (starEach es X.env)).any (·.1) = false := by rfl) :
    PE X (.Call (.Name x p) (e :: es) [] pos) (tCE sp dvs W t) := by
  obtain ⟨f, fd, ps, ds, F, hm, kp, b, d⟩ := c.ex
  exact pe_callSD F (hr.mono hk) hg hm kp b d (fun σ => passAt tk σ) ha hdb he hpl
end
/-! ### a method of a class as it stands behind the top -/
structure AtM (K : PySem.W.Frag) (p : Str × Option Str) (n q : Str) (st : Stmt) : Prop where
  ex : ∃ fd : FuncData, FunD K n q (defArgs st) (defBody st) (defScope st) [] [] (He.fAd K p) fd
/-- an own class with own __init__(self, f): message and field -/
structure OexM (K : PySem.W.Frag) (mg : Str → Option Value) (x f : Str) : Prop where
  gl : mg x = some (.ref (He.ga K x))
  oe : OexC K (He.ga K x)
  fi : PySem.W.findIn K (.ref (He.ga K x)) "__init__" = some (some (.ref (He.fAd K (x, some "__init__"))))
  ft : PySem.W.typeIn K (.ref (He.fAd K (x, some "__init__"))) = some (.type "function")
  no : PySem.W.findIn K (.ref (He.ga K x)) f = some none
  xf : XfC K (He.ga K x)
/-- .. without: X('..') -/
structure OexN (K : PySem.W.Frag) (mg : Str → Option Value) (x : Str) : Prop where
  gl : mg x = some (.ref (He.ga K x))
  ei : PySem.W.excIn K (He.ga K x) [.type "ValueError", .type "Exception", .type "BaseException", .type "object"] "ValueError.__new__" = true
  kp : PySem.W.keepIn K (.ref (He.ga K x)) = true
  bs : PySem.W.subIn K (.ref (He.ga K x)) (.type "BaseException") = some true
  ty : PySem.W.typeIn K (.ref (He.ga K x)) = some (.type "type")
def FmtV (x : V) : Prop := x = .non ∨ (∃ y : Str, x = .str y ∧ y.length ≤ 1000) ∨ ∃ i : Int, x = .int i ∧ 0 ≤ i ∧ i < 10 ^ 300
theorem fmt_int {i : Int} (h : 0 ≤ i) (h2 : i < 10 ^ 300) : FmtV (.int i) := .inr (.inr ⟨i, rfl, h, h2⟩)
theorem fmt_nat {i : Nat} (h2 : i < 10 ^ 300) : FmtV (.int i) := fmt_int (by omega) (by exact_mod_cast h2)
def clsB : Stmt → List Stmt
  | .ClassDef (body := b) .. => b
  | _ => []
def sp_xi (K : PySem.W.Frag) (x f : Str) : Sp := fun vs H Q _ => ∃ (a : Addr) (y : V), vs = [.ref a, y] ∧ H a = some (exo a (He.ga K x) none) ∧ FmtV y ∧ ∀ d, H d = none → d ≠ a → Q .non (upd (upd H d (exd d [(f, y)])) a (exo a (He.ga K x) (some d)))

/-! ### facts by names -/
abbrev veB : List Value := [.type "ValueError", .type "Exception", .type "BaseException", .type "object"]
open He in
def excCB (K : PySem.W.Frag) (D : Addr) : Bool := eqO (PySem.W.findIn K (.ref D) "__getattribute__") (some (some (.builtin "BaseException.__getattribute__"))) && (eqO (PySem.W.findIn K (.ref D) "__getattr__") (some none) && (decide (PySem.W.subIn K (.ref D) (.type "BaseException") = some true) &&
  (PySem.W.hasDictIn K D && (eqO (PySem.W.findIn K (.ref D) "__class__") (some (some (.builtin "object.__class__"))) && (eqO (PySem.W.specialIn K (.builtin "object.__class__") "__get__") (some (some (.builtin "getset_descriptor.__get__"))) &&
  (decide (PySem.W.takesIn K (.builtin "object.__class__") = some true) && decide (PySem.W.mroIn K D (.type "object") = some true)))))))
theorem excCB_ok {K : PySem.W.Frag} {D : Addr} (h : excCB K D = true) : ExcC K D := by
  obtain ⟨h1, h⟩ := He.ba h
  obtain ⟨h2, h⟩ := He.ba h
  obtain ⟨h3, h⟩ := He.ba h
  obtain ⟨h4, h⟩ := He.ba h
  obtain ⟨h5, h⟩ := He.ba h
  obtain ⟨h6, h⟩ := He.ba h
  obtain ⟨h7, h8⟩ := He.ba h
  exact ⟨He.eqO_ok h1, He.eqO_ok h2, of_decide_eq_true h3, h4, He.eqO_ok h5, He.eqO_ok h6, of_decide_eq_true h7, of_decide_eq_true h8⟩
def oexB (K : PySem.W.Frag) (C : Addr) : Bool := match K.lookup C with
  | some ⟨.type "type", _, .cls cd, sl⟩ => (match cd.mro, sl.toList with
    | .ref C' :: bm, [_, _, _, _, some (.builtin n), _] => C' == C && n == "ValueError.__new__" && !cd.hasDel && cd.hasDict && PySem.HandSPX.refsVE bm
    | _, _ => false)
  | _ => false
theorem oexB_ok {K : PySem.W.Frag} {C : Addr} (q : oexB K C = true) : ∃ nm q N bs bm sn sub ab col dd k0 k1 k2 k3 k5, K.lookup C = some (excClassObj nm q C N bs bm true sn sub ab col dd k0 k1 k2 k3 k5 "ValueError.__new__") ∧ PySem.HandSPX.refsVE bm = true := by
  unfold oexB at q
  split at q
  · rename_i dd cd sl ho
    split at q
    · rename_i C' bm k0 k1 k2 k3 n k5 hm hs
      simp only [Bool.and_eq_true, beq_iff_eq, Bool.not_eq_true'] at q
      obtain ⟨⟨⟨⟨rfl, rfl⟩, hdel⟩, hdict⟩, hve⟩ := q
      obtain ⟨nm, bs, mro, ns, qn, hd, sn, sub, ab, col, del⟩ := cd
      dsimp only at hm hdel hdict
      subst hm hdel hdict
      have hsl : sl = #[k0, k1, k2, k3, some (.builtin "ValueError.__new__"), k5] := by
        obtain ⟨l⟩ := sl
        simp only at hs
        rw [hs]
      subst hsl
      exact ⟨nm, qn, ns, bs, bm, sn, sub, ab, col, dd, k0, k1, k2, k3, k5, ho, hve⟩
    · cases q
  · cases q
open He in
def msgB (K : PySem.W.Frag) (x : Str) : Bool := PySem.W.excIn K (ga K x) veB "ValueError.__new__" && (PySem.W.keepIn K (.ref (ga K x)) && (decide (PySem.W.subIn K (.ref (ga K x)) (.type "BaseException") = some true) && decide (PySem.W.typeIn K (.ref (ga K x)) = some (.type "type"))))
open He in
def iniB (K : PySem.W.Frag) (x f : Str) : Bool := oexB K (ga K x) && (eqO (PySem.W.findIn K (.ref (ga K x)) "__setattr__") (some (some (.builtin "object.__setattr__"))) && (decide (PySem.W.subIn K (.ref (ga K x)) (.type "BaseException") = some true) && (decide (PySem.W.typeIn K (.ref (ga K x)) = some (.type "type")) &&
  (PySem.W.keepIn K (.ref (ga K x)) && (eqO (PySem.W.findIn K (.ref (ga K x)) "__init__") (some (some (.ref (fAd K (x, some "__init__"))))) && (decide (PySem.W.typeIn K (.ref (fAd K (x, some "__init__"))) = some (.type "function")) && (eqO (PySem.W.findIn K (.ref (ga K x)) f) (some none) && xfB K (ga K x))))))))
theorem msgB_ok {K : PySem.W.Frag} {mg : Str → Option Value} {x : Str} (g : mg x = some (.ref (He.ga K x))) (h : msgB K x = true) : OexN K mg x := by
  obtain ⟨h1, h⟩ := He.ba h
  obtain ⟨h2, h⟩ := He.ba h
  obtain ⟨h3, h4⟩ := He.ba h
  exact ⟨g, h1, h2, of_decide_eq_true h3, of_decide_eq_true h4⟩
theorem iniB_ok {K : PySem.W.Frag} {mg : Str → Option Value} {x f : Str} (g : mg x = some (.ref (He.ga K x))) (h : iniB K x f = true) : OexM K mg x f := by
  obtain ⟨h1, h⟩ := He.ba h
  obtain ⟨h2, h⟩ := He.ba h
  obtain ⟨h3, h⟩ := He.ba h
  obtain ⟨h4, h⟩ := He.ba h
  obtain ⟨h5, h⟩ := He.ba h
  obtain ⟨h6, h⟩ := He.ba h
  obtain ⟨h7, h⟩ := He.ba h
  obtain ⟨h8, h9⟩ := He.ba h
  exact ⟨g, ⟨oexB_ok h1, He.eqO_ok h2, of_decide_eq_true h3, of_decide_eq_true h4, h5⟩, He.eqO_ok h6, of_decide_eq_true h7, He.eqO_ok h8, xfB_ok h9⟩
open He in
def deaB (K : PySem.W.Frag) (D : Addr) : Bool := PySem.W.readsIn K D (.type "type") && (eqO (PySem.W.specialIn K (.ref D) "__getattribute__") (some (some (.builtin "type.__getattribute__"))) && (match PySem.W.findCls K (.ref D) (.type "type") "__init__" with
  | some (.val (.builtin n)) => decide (n = "ValueError.__init__")
  | _ => false))
theorem deaB_ok {K : PySem.W.Frag} {D : Addr} (h : deaB K D = true) : DearC K D := by
  obtain ⟨h1, h⟩ := He.ba h
  obtain ⟨h2, h⟩ := He.ba h
  refine ⟨h1, He.eqO_ok h2, ?_⟩
  split at h
  · rename_i n e
    rw [e, of_decide_eq_true h]
  · cases h
/-- what is told of the classes cs (with init ms: their fields; without ns), D the base of all -/
structure Exs (K : PySem.W.Frag) (mg : Str → Option Value) (D : Str) (cs : List Str) (ms : List (Str × Str)) (ns : List Str) : Prop where
  g : ∀ x ∈ cs, mg x = some (.ref (He.ga K x))
  c : ∀ x ∈ cs, ExcC K (He.ga K x)
  k : ∀ x ∈ cs, ∀ y ∈ cs, PySem.W.kitOne K (.ref (He.ga K x)) (.ref (He.ga K y)) = some (decide (x = y) || decide (y = D))
  m : ∀ x ∈ cs, ∀ y ∈ cs, PySem.W.exmOne K (.ref (He.ga K x)) (.ref (He.ga K y)) = some (decide (x = y) || decide (y = D))
  v : ∀ x ∈ cs, PySem.W.kitOne K (.ref (He.ga K x)) (.type "ValueError") = some true
  n : ∀ y ∈ cs, PySem.W.kitOne K (.type "NoneType") (.ref (He.ga K y)) = some false
  i : ∀ q ∈ ms, OexM K mg q.1 q.2
  s : ∀ x ∈ ns, OexN K mg x
  d : DearC K (He.ga K D)
open He in
def exsB (D : Str) (cs : List Str) (ms : List (Str × Str)) (ns : List Str) (K : PySem.W.Frag) : Bool :=
  (cs.all fun x => eqO (PySem.W.nsIn K mainGlobals x) (some (some (.ref (ga K x))))) && ((cs.all fun x => excCB K (ga K x)) && ((cs.all fun x => cs.all fun y => decide (PySem.W.kitOne K (.ref (ga K x)) (.ref (ga K y)) = some (decide (x = y) || decide (y = D)))) &&
  ((cs.all fun x => cs.all fun y => decide (PySem.W.exmOne K (.ref (ga K x)) (.ref (ga K y)) = some (decide (x = y) || decide (y = D)))) && ((cs.all fun x => decide (PySem.W.kitOne K (.ref (ga K x)) (.type "ValueError") = some true)) &&
  ((cs.all fun x => decide (PySem.W.kitOne K (.type "NoneType") (.ref (ga K x)) = some false)) && ((ms.all fun q => decide (q.1 ∈ cs) && iniB K q.1 q.2) && ((ns.all fun x => decide (x ∈ cs) && msgB K x) && deaB K (ga K D))))))))
theorem exsB_ok {D : Str} {cs : List Str} {ms : List (Str × Str)} {ns : List Str} {K : PySem.W.Frag} {mg : Str → Option Value} {h : Heap} (X : K.In h) (G : h.Ns mainGlobals mg) (c : exsB D cs ms ns K = true) : Exs K mg D cs ms ns := by
  obtain ⟨h1, c⟩ := He.ba c
  obtain ⟨h2, c⟩ := He.ba c
  obtain ⟨h3, c⟩ := He.ba c
  obtain ⟨h4, c⟩ := He.ba c
  obtain ⟨h5, c⟩ := He.ba c
  obtain ⟨h6, c⟩ := He.ba c
  obtain ⟨h7, c⟩ := He.ba c
  obtain ⟨h8, h9⟩ := He.ba c
  have g : ∀ x ∈ cs, mg x = some (.ref (He.ga K x)) := fun x hx => PySem.W.mg_of X G (He.eqO_ok (List.all_eq_true.mp h1 x hx))
  exact ⟨g, fun x hx => excCB_ok (List.all_eq_true.mp h2 x hx), fun x hx y hy => of_decide_eq_true (List.all_eq_true.mp (List.all_eq_true.mp h3 x hx) y hy), fun x hx y hy => of_decide_eq_true (List.all_eq_true.mp (List.all_eq_true.mp h4 x hx) y hy),
    fun x hx => of_decide_eq_true (List.all_eq_true.mp h5 x hx), fun x hx => of_decide_eq_true (List.all_eq_true.mp h6 x hx),
    fun q hq => by
      obtain ⟨a, b⟩ := He.ba (List.all_eq_true.mp h7 q hq)
      exact iniB_ok (g _ (of_decide_eq_true a)) b,
    fun x hx => by
      obtain ⟨a, b⟩ := He.ba (List.all_eq_true.mp h8 x hx)
      exact msgB_ok (g _ (of_decide_eq_true a)) b, deaB_ok h9⟩
/-! the hook: by one more Bool -/
section
open He
abbrev AlE : Type := AlD × Bool
structure SaysE (fa : List Fa) (fn : List DefD) (ex : PySem.W.Frag → Bool) (K : PySem.W.Frag) : Prop where
  d : SaysD fa fn K
  more : ex K = true
def asE (g : Addr → Option Obj) : Nat → List Addr
  | 0 => [mainGlobals, cStatics]
  | n + 1 => growD g (asE g n)
def obsE (n : Nat) (fa : List Fa) (fn : List DefD) (ex : PySem.W.Frag → Bool) (g : Addr → Option Obj) : AlE := (obsD fa fn (frG g (asE g n)), ex (frG g (asE g n)))
def valE (fn : List DefD) : AlE := (valD fn, true)
def hookE (n : Nat) (fa : List Fa) (fn : List DefD) (ex : PySem.W.Frag → Bool) : PySem.W.Hook where
  α := AlE
  obs := fun s => obsE n fa fn ex s.heap.get?
  val := fun _ => valE fn
  says := fun _ h => ∃ K : PySem.W.Frag, K.In h ∧ SaysE fa fn ex K
  of := fun _ _ e => ⟨_, frG_in, ⟨congrArg (fun z : AlE => z.1) e, congrArg (fun z : AlE => z.2) e⟩⟩
  keeps := fun _ _ _ ⟨K, hK, c⟩ k => ⟨K, PySem.W.Frag.In.keeps hK k, c⟩
theorem obsE_eq {n : Nat} {fa : List Fa} {fn : List DefD} {ex : PySem.W.Frag → Bool} {g : Addr → Option Obj} {s : Shared} (h : ∀ a, g a = s.heap.get? a) : obsE n fa fn ex g = (hookE n fa fn ex).obs s := by
  have e : g = s.heap.get? := funext h
  rw [e] <;> rfl
end
/-! ### own __init__s, raises -/
structure Oi (P : Program) (w : World) (K : PySem.W.Frag) (mg : Str → Option Value) (base : Heap) (x f : Str) : Prop where
  ex : ∃ fd : FuncData, FnOk P w K mg base CX0 1 (He.fAd K (x, some "__init__")) fd [("self" : Str), f] (sp_xi K x f) ∧ Binds K fd [("self" : Str), f] []
theorem AtM.oi {P : Program} {w : World} {K : PySem.W.Frag} {mg : Str → Option Value} {base : Heap} {x f q : Str} {st : Stmt} {N : List Str} (F : AtM K (x, some "__init__") "__init__" q st) (S : FnScope N [("self" : Str), f] (defScope st))
    (b : ∀ (kV doc pm : Value) (an : Option Addr) (cdv ct : Value) (us : List Value), us.length = 2 → bindArgs (PySem.W.fnOf "__init__" q (defArgs st) (defBody st) (defScope st) .none kV doc pm an cdv ct) ⟨us, []⟩ = pure ([("self" : Str), f].zip us))
    (hbody : ∀ (cdv : Value) (A : Around) (outer : List Env) (s : Shared) (H : Hp) (vs : List V) (Q : VK) (E : XK), Room 0 (A.deeper (envOfC q (defScope st) s.heap.objs.size (He.fAd K (x, some "__init__")) cdv)) → sp_xi K x f vs H Q E →
      ∃ t, PSs (cxOf CX0 P w K mg base N q (defScope st) (He.fAd K (x, some "__init__")) cdv A outer s H E).nox (defBody st) t ∧ t { nx := fun _ H' => Q .non H', rt := Q } (start N vs) H) : Oi P w K mg base x f := by
  obtain ⟨fd, F⟩ := F.ex
  refine ⟨fd, F.ok S (fun vs H Q E h => ?_) fun cdv A outer s H vs Q E hr h => ?_, ?_⟩
  · obtain ⟨a, y, rfl, _⟩ := h
    rfl
  · obtain ⟨t, h1, h2⟩ := hbody cdv A outer s H vs Q E hr h
    exact ⟨t, h1.nox, h2⟩
  · obtain ⟨oc, od, dV, kV, doc, pm, an, cdv, ct, osl, rfl, _, _, hD, _⟩ := F.ex
    rcases hD with ⟨_, rfl⟩ | ⟨n, _⟩
    · exact .all (b kV doc pm an cdv ct)
    · exact absurd rfl n
def tRaiO (K : PySem.W.Frag) (x f : Str) (W : WX) (ta : TA) : TS := fun _ σ H => tMkO (He.ga K x) (sp_xi K x f) [] ta σ H fun cls d H' => W cls d σ H'
def tRaiN (K : PySem.W.Frag) (x : Str) (W : WX) (ta : TA) : TS := fun _ σ H => ta σ H fun vs H1 => vs.length ≤ sizeLine ∧ W (.ref (He.ga K x)) none σ H1
section
variable {X : Cx} {W : WX} {x f : Str} {j : Nat} {e : Expr} {es : List Expr} {ta : TA} {p pos pos' : Pos}
theorem ps_raiO (K : PySem.W.Frag) (hc : X.calm = true) (tk : Takes X W) (M : OexM K X.mg x f) (F : Oi X.prog X.w K X.mg X.base x f) (hr : Room j X.A) (hj : 2 ≤ j) (hg : Gl X x) (ha : PA X (e :: es) ta) (hK : X.K = K := by rfl)
    (hdb : (x == ("__debug__" : Str)) = false := by decide) (he : starEach (e :: es) X.env = (false, eval e X.env) :: starEach es X.env := by rfl) (hpl : (backTo pos (starEach es X.env)).any (·.1) = false := by rfl) :
    PS X (.Raise (some (.Call (.Name x p) (e :: es) [] pos)) none pos') (tRaiO K x f W ta) := by
  subst hK
  obtain ⟨fd, F1, hb⟩ := F.ex
  exact ps_raise hc tk (pmk_oex M.oe M.fi M.ft F1 (hr.mono hj) hb .nil pass0 hg M.gl ha hdb he hpl)
theorem ps_raiN (K : PySem.W.Frag) (hc : X.calm = true) (tk : Takes X W) (M : OexN K X.mg x) (hg : Gl X x) (ha : PA X (e :: es) ta) (hK : X.K = K := by rfl)
    (hdb : (x == ("__debug__" : Str)) = false := by decide) (he : starEach (e :: es) X.env = (false, eval e X.env) :: starEach es X.env := by rfl) (hpl : (backTo pos (starEach es X.env)).any (·.1) = false := by rfl) :
    PS X (.Raise (some (.Call (.Name x p) (e :: es) [] pos)) none pos') (tRaiN K x W ta) := by
  subst hK
  exact ps_raise hc tk (pmk_ownA PySem.F.excBase_ValueError M.ei M.gl M.kp (raises_own M.bs M.ty) hg ha hdb he hpl)
end
section
variable {K : PySem.W.Frag} {x f : Str} {W : WX} {ta : TA} {D : Ends} {σ : L2.St} {H : Hp}
theorem r_raiN (q : ta σ H fun vs H1 => vs.length ≤ sizeLine ∧ W (.ref (He.ga K x)) none σ H1) : tRaiN K x W ta D σ H := q
theorem r_raiO (q : ta σ H fun vs H1 => vs.length ≤ 1000 ∧ ∀ a, H1 a = none → sp_xi K x f (.ref a :: (vs ++ [])) (upd H1 a (exo a (He.ga K x) none))
  (fun v H2 => v = .non ∧ ∃ (d : Addr) (fs : List (Str × V)), H2 a = some (exo a (He.ga K x) (some d)) ∧ H2 d = some (exd d fs) ∧ H1 d = none ∧ W (.ref (He.ga K x)) (some d) σ (upd (L2.del H2 a) d (.xd fs))) (fun _ _ _ => False)) : tRaiO K x f W ta D σ H := q
theorem r_raiW {y : V} (hf : FmtV y) (q : ∀ d, H d = none → W (.ref (He.ga K x)) (some d) σ (upd H d (.xd [(f, y)]))) :
    [y].length ≤ 1000 ∧ ∀ a, H a = none → sp_xi K x f (.ref a :: ([y] ++ [])) (upd H a (exo a (He.ga K x) none))
      (fun v H2 => v = .non ∧ ∃ (d : Addr) (fs : List (Str × V)), H2 a = some (exo a (He.ga K x) (some d)) ∧ H2 d = some (exd d fs) ∧ H d = none ∧ W (.ref (He.ga K x)) (some d) σ (upd (L2.del H2 a) d (.xd fs))) (fun _ _ _ => False) := by
  refine ⟨by simp, fun a ha => ⟨a, y, rfl, upd_same, hf, fun d hd hda => ⟨rfl, d, [(f, y)], upd_same, ?_, ?_, ?_⟩⟩⟩
  · rw [upd_ne hda, upd_same]
  · rw [upd_ne hda] at hd
    exact hd
  · rw [upd_ne hda] at hd
    have e : upd (L2.del (upd (upd (upd H a (exo a (He.ga K x) none)) d (exd d [(f, y)])) a (exo a (He.ga K x) (some d))) a) d (.xd [(f, y)]) = upd H d (.xd [(f, y)]) := by
      funext b
      by_cases hb : b = d
      · rw [hb, upd_same, upd_same]
      · rw [upd_ne hb, upd_ne hb]
        by_cases h2 : b = a
        · rw [h2, del_same, ha]
        · rw [del_ne h2, upd_ne h2, upd_ne hb, upd_ne h2]
    rw [e]
    exact q d hd
theorem r_raiE {R : XK} {y : V} (hf : FmtV y) (q : ∀ d, H d = none → R (.ref (He.ga K x)) (some d) (upd H d (.xd [(f, y)]))) :
    [y].length ≤ 1000 ∧ ∀ a, H a = none → sp_xi K x f (.ref a :: ([y] ++ [])) (upd H a (exo a (He.ga K x) none))
      (fun v H2 => v = .non ∧ ∃ (d : Addr) (fs : List (Str × V)), H2 a = some (exo a (He.ga K x) (some d)) ∧ H2 d = some (exd d fs) ∧ H d = none ∧ R (.ref (He.ga K x)) (some d) (upd (L2.del H2 a) d (.xd fs))) (fun _ _ _ => False) := by
  refine ⟨by simp, fun a ha => ⟨a, y, rfl, upd_same, hf, fun d hd hda => ⟨rfl, d, [(f, y)], upd_same, ?_, ?_, ?_⟩⟩⟩
  · rw [upd_ne hda, upd_same]
  · rw [upd_ne hda] at hd
    exact hd
  · rw [upd_ne hda] at hd
    have e : upd (L2.del (upd (upd (upd H a (exo a (He.ga K x) none)) d (exd d [(f, y)])) a (exo a (He.ga K x) (some d))) a) d (.xd [(f, y)]) = upd H d (.xd [(f, y)]) := by
      funext b
      by_cases hb : b = d
      · rw [hb, upd_same, upd_same]
      · rw [upd_ne hb, upd_ne hb]
        by_cases h2 : b = a
        · rw [h2, del_same, ha]
        · rw [del_ne h2, upd_ne h2, upd_ne hb, upd_ne h2]
    rw [e]
    exact q d hd
theorem r_ce {sp : Sp} {dvs : List V} {Q : VK} {t : TA} (q : t σ H fun vs H1 => sp (vs ++ dvs) H1 Q (WE W σ)) : tCE sp dvs W t σ H Q := q
theorem r_veI {Q : VK} (q : ta σ H fun vs H1 => ∃ (a C : Addr) (ws : List V), vs = .ref a :: ws ∧ ws.length ≤ 1000 ∧ OexC K C ∧ H1 a = some (exo a C none) ∧ Q .non H1) : tVeI K ta σ H Q := q
theorem r_ost {to te : TE} (q : te σ H fun y H1 => to σ H1 fun x H2 => ∃ a C : Addr, x = .ref a ∧ OexC K C ∧ PySem.W.findIn K (.ref C) f = some none ∧
  ((H2 a = some (exo a C none) ∧ ∀ dx, H2 dx = none → dx ≠ a → D.nx σ (upd (upd H2 dx (exd dx [(f, y)])) a (exo a C (some dx)))) ∨
    ∃ (dx : Addr) (fs : List (Str × V)), H2 a = some (exo a C (some dx)) ∧ H2 dx = some (exd dx fs) ∧ fs.length ≤ 900 ∧ D.nx σ (upd H2 dx (exd dx ((f, y) :: fs))))) : tOst K f to te D σ H := q
theorem r_fmtN {te : TE} {Q : VK} (q : te σ H fun x H1 => rFmtN x H1 Q) : tFmtN te σ H Q := q
theorem r_fmtNV {y : V} {Q : VK} (hf : FmtV y) (q : ∀ z : Str, z.length ≤ 1000 → Q (.str z) H) : rFmtN y H Q := by
  rcases hf with rfl | ⟨z, rfl, hz⟩ | ⟨i, rfl, h0, h1⟩
  · exact .inr (.inr ⟨rfl, q _ (by decide)⟩)
  · exact .inl ⟨z, rfl, Nat.le_trans hz (by decide), q _ hz⟩
  · refine .inr (.inl ⟨i, rfl, ?_, q _ ?_⟩)
    · have h2 : i.natAbs < 10 ^ 300 := by omega
      by_cases hz : i.natAbs = 0
      · rw [hz]
        decide
      · exact (Nat.log2_lt hz).mpr (Nat.lt_trans h2 (by decide +kernel))
    · exact Nat.le_trans (toString_length_le h0 (k := 300) (by decide) h1) (by decide)
theorem r_jsV {ts : List TE} {m x : Str} {QS : Str → Hp → Prop} (hm : m.length ≤ 1000) (hx : x.length ≤ 1000) (q : ∀ z, tJs ts z σ H QS) : ∃ y : Str, V.str x = .str y ∧ (m ++ y).length ≤ sizeLine ∧ tJs ts (m ++ y) σ H QS := ⟨x, rfl, by rw [Z.len_app, sizeLine_eq]; omega, q _⟩
end

/-! ### asking an exception that was kept -/
section
variable {K : PySem.W.Frag} {mg : Str → Option Value} {B : Str} {cs : List Str} {ms : List (Str × Str)} {ns : List Str} {H : Hp} {Q : VK} {a : Addr} {d : Option Addr} {x : Str}
theorem r_isX (b : Bool) {y : Str} (E : Exs K mg B cs ms ns) (hx : x ∈ cs) (hy : y ∈ cs) (ha : H a = some (ExH (.ref (He.ga K x)) d a)) (hd : DictV H d) (q : Q (.bl b) H) (hb : (decide (x = y) || decide (y = B)) = b := by decide +kernel) : rIsiX K [.ref a, .ref (He.ga K y)] H Q :=
  .inr ⟨a, _, d, _, _, _, rfl, ha, hd, E.c x hx, .own _, E.k x hx y hy, hb ▸ q⟩
theorem r_isXv (E : Exs K mg B cs ms ns) (hx : x ∈ cs) (ha : H a = some (ExH (.ref (He.ga K x)) d a)) (hd : DictV H d) (q : Q (.bl true) H) : rIsiX K [.ref a, .ty "ValueError"] H Q :=
  .inr ⟨a, _, d, _, _, _, rfl, ha, hd, E.c x hx, .ty "ValueError", E.v x hx, q⟩
theorem r_isXn {y : Str} (E : Exs K mg B cs ms ns) (hy : y ∈ cs) (q : Q (.bl false) H) : rIsiX K [.non, .ref (He.ga K y)] H Q :=
  .inl ⟨_, _, _, _, _, rfl, .own _, .base .non, E.n y hy, q⟩
theorem kit_any {ys : List Str} (E : Exs K mg B cs ms ns) (hx : x ∈ cs) (hy : ∀ y ∈ ys, y ∈ cs) : PySem.W.kitAny K (.ref (He.ga K x)) (ys.map fun y => Value.ref (He.ga K y)) = some (ys.any fun y => decide (x = y) || decide (y = B)) := by
  induction ys with
  | nil => rfl
  | cons y ys ih =>
    have h1 := E.k x hx y (hy y List.mem_cons_self)
    have h2 := ih fun z hz => hy z (List.mem_cons_of_mem _ hz)
    rw [List.map_cons, List.any_cons]
    cases e : (decide (x = y) || decide (y = B)) with
    | true =>
      rw [e] at h1
      exact kitAny_cons h1 (fun z => nomatch z) fun _ => rfl
    | false =>
      rw [e] at h1
      rw [Bool.false_or]
      exact kitAny_cons h1 (fun _ => h2) fun z => nomatch z
theorem r_isXT (b : Bool) {tp : Addr} (ys : List Str) (E : Exs K mg B cs ms ns) (hx : x ∈ cs) (hy : ∀ y ∈ ys, y ∈ cs) (ha : H a = some (ExH (.ref (He.ga K x)) d a)) (hd : DictV H d) (ht : H tp = some (.tup (ys.map fun y => .ref (He.ga K y)))) (q : Q (.bl b) H) (hb : (ys.any fun y => decide (x = y) || decide (y = B)) = b := by decide +kernel) : rIsiXT K [.ref a, .ref tp] H Q := by
  subst hb
  refine .inr ⟨a, _, d, tp, _, ys.map fun y => Value.ref (He.ga K y), _, rfl, ha, hd, E.c x hx, ht, ?_, kit_any E hx hy, q⟩
  clear ht hy q
  induction ys with
  | nil => exact .nil
  | cons y ys ih => exact .cons (.own _) ih
theorem r_xv0 {te : TE} {n : Str} {σ : L2.St} (q : te σ H fun x H1 => ∃ (a C dd : Addr) (fs : List (Str × V)) (v : V), x = .ref a ∧ H1 a = some (ExH (.ref C) (some dd) a) ∧ H1 dd = some (.xd fs) ∧ fs.lookup n = some v ∧ XfC K C ∧ PySem.W.findIn K (.ref C) n = some none ∧ Q v H1) : tXv K n te σ H Q := q
theorem r_xv {R : V → Prop} {dd : Addr} {f : Str} {v : V} (E : OexM K mg x f) (ha : H a = some (ExH (.ref (He.ga K x)) (some dd) a)) (hd : H dd = some (.xd [(f, v)])) (q : R v) :
    ∃ (a' C dd : Addr) (fs : List (Str × V)) (v : V), V.ref a = .ref a' ∧ H a' = some (ExH (.ref C) (some dd) a') ∧ H dd = some (.xd fs) ∧ fs.lookup f = some v ∧ XfC K C ∧ PySem.W.findIn K (.ref C) f = some none ∧ R v :=
  ⟨a, _, dd, _, v, rfl, ha, hd, by simp [List.lookup], E.xf, E.no, q⟩
end
theorem r_dnewK {σ : L2.St} {H : Hp} {Q : VK} (q : ∀ p H', H p = none → Same H H' → H' p = some (.dK []) → Q (.ref p) H') : tDNewK σ H Q := fun p hp => q p _ hp (Same.new hp) upd_same
end Z

/-! Zd: data of any kind, told by its kind; dicts. -/
namespace Z
open PySem PySem.Spec PyProof.Rows L2

/-! ### data: none, bools, ints, texts, lists, tuples, an empty dict -/
mutual
inductive Dq (H : Hp) : V → PyData → Prop
  | non : Dq H .non .none
  | bl (b : Bool) : Dq H (.bl b) (.bool b)
  | int (i : Int) : Dq H (.int i) (.int i)
  | str (x : Str) (h : x.length ≤ 1000000) : Dq H (.str x) (.str x)
  | lst {a : Addr} {xs : List V} {ds : List PyData} : H a = some (.lst xs) → DqAll H xs ds → xs.length ≤ 1000000 → Dq H (.ref a) (.list ds)
  | tup {a : Addr} {xs : List V} {ds : List PyData} : H a = some (.tup xs) → DqAll H xs ds → xs.length ≤ 1000000 → Dq H (.ref a) (.tuple ds)
  | dic {a : Addr} : H a = some (.dK []) → Dq H (.ref a) (.dict [])
inductive DqAll (H : Hp) : List V → List PyData → Prop
  | nil : DqAll H [] []
  | cons {v : V} {vs : List V} {d : PyData} {ds : List PyData} : Dq H v d → DqAll H vs ds → DqAll H (v :: vs) (d :: ds)
end
mutual
theorem Dq.up {H H' : Hp} (e : Same H H') : ∀ {v : V} {d : PyData}, Dq H v d → Dq H' v d
  | _, _, .non => .non
  | _, _, .bl b => .bl b
  | _, _, .int i => .int i
  | _, _, .str x h => .str x h
  | _, _, .lst h r n => .lst (e _ _ h) (DqAll.up e r) n
  | _, _, .tup h r n => .tup (e _ _ h) (DqAll.up e r) n
  | _, _, .dic h => .dic (e _ _ h)
theorem DqAll.up {H H' : Hp} (e : Same H H') : ∀ {vs : List V} {ds : List PyData}, DqAll H vs ds → DqAll H' vs ds
  | _, _, .nil => .nil
  | _, _, .cons h r => .cons (Dq.up e h) (DqAll.up e r)
end
theorem DqAll.length {H : Hp} : ∀ {vs : List V} {ds : List PyData}, DqAll H vs ds → vs.length = ds.length
  | _, _, .nil => rfl
  | _, _, .cons _ r => by rw [List.length_cons, List.length_cons, DqAll.length r]
theorem DqAll.get {H : Hp} : ∀ {vs : List V} {ds : List PyData}, DqAll H vs ds → ∀ (i : Nat) (h1 : i < vs.length) (h2 : i < ds.length), Dq H vs[i] ds[i]
  | _, _, .cons h _, 0, _, _ => h
  | _, _, .cons _ r, i + 1, h1, h2 => DqAll.get r i (Nat.lt_of_succ_lt_succ h1) (Nat.lt_of_succ_lt_succ h2)
theorem DqAll.app {H : Hp} : ∀ {vs : List V} {ds : List PyData} {us : List V} {es : List PyData}, DqAll H vs ds → DqAll H us es → DqAll H (vs ++ us) (ds ++ es)
  | _, _, _, _, .nil, r => r
  | _, _, _, _, .cons h q, r => .cons h (DqAll.app q r)
/-! kinds -/
def isInt : PyData → Bool
  | .int _ | .bool _ => true
  | _ => false
def isBool : PyData → Bool
  | .bool _ => true
  | _ => false
def isStr : PyData → Bool
  | .str _ => true
  | _ => false
def isList : PyData → Bool
  | .list _ => true
  | _ => false
def isTuple : PyData → Bool
  | .tuple _ => true
  | _ => false
def isDict : PyData → Bool
  | .dict _ => true
  | _ => false
section
variable {K : PySem.W.Frag} {H : Hp} {Q : VK} {x : V} {d : PyData}
theorem r_isQ_int (h : Dq H x d) (q : Q (.bl (isInt d)) H) : rIsi K [x, .ty "int"] H Q := by
  cases h with
  | non => exact q_NoneType_int q
  | bl b => exact q_bool_int q
  | int i => exact q_int_int q
  | str z hz => exact q_str_int q
  | lst a r n => exact q_list_int a q
  | tup a r n => exact q_tuple_int a q
  | dic a => exact q_dict_int a q
theorem r_isQ_bool (h : Dq H x d) (q : Q (.bl (isBool d)) H) : rIsi K [x, .ty "bool"] H Q := by
  cases h with
  | non => exact q_NoneType_bool q
  | bl b => exact q_bool_bool q
  | int i => exact q_int_bool q
  | str z hz => exact q_str_bool q
  | lst a r n => exact q_list_bool a q
  | tup a r n => exact q_tuple_bool a q
  | dic a => exact q_dict_bool a q
theorem r_isQ_str (h : Dq H x d) (q : Q (.bl (isStr d)) H) : rIsi K [x, .ty "str"] H Q := by
  cases h with
  | non => exact q_NoneType_str q
  | bl b => exact q_bool_str q
  | int i => exact q_int_str q
  | str z hz => exact q_str_str q
  | lst a r n => exact q_list_str a q
  | tup a r n => exact q_tuple_str a q
  | dic a => exact q_dict_str a q
theorem r_isQ_list (h : Dq H x d) (q : Q (.bl (isList d)) H) : rIsi K [x, .ty "list"] H Q := by
  cases h with
  | non => exact q_NoneType_list q
  | bl b => exact q_bool_list q
  | int i => exact q_int_list q
  | str z hz => exact q_str_list q
  | lst a r n => exact q_list_list a q
  | tup a r n => exact q_tuple_list a q
  | dic a => exact q_dict_list a q
theorem r_isQ_tuple (h : Dq H x d) (q : Q (.bl (isTuple d)) H) : rIsi K [x, .ty "tuple"] H Q := by
  cases h with
  | non => exact q_NoneType_tuple q
  | bl b => exact q_bool_tuple q
  | int i => exact q_int_tuple q
  | str z hz => exact q_str_tuple q
  | lst a r n => exact q_list_tuple a q
  | tup a r n => exact q_tuple_tuple a q
  | dic a => exact q_dict_tuple a q
theorem r_isQ_dict (h : Dq H x d) (q : Q (.bl (isDict d)) H) : rIsi K [x, .ty "dict"] H Q := by
  cases h with
  | non => exact q_NoneType_dict q
  | bl b => exact q_bool_dict q
  | int i => exact q_int_dict q
  | str z hz => exact q_str_dict q
  | lst a r n => exact q_list_dict a q
  | tup a r n => exact q_tuple_dict a q
  | dic a => exact q_dict_dict a q
/-! inversions -/
theorem Dq.list {ds : List PyData} (h : Dq H x (.list ds)) : ∃ a xs, x = .ref a ∧ H a = some (.lst xs) ∧ DqAll H xs ds := by
  cases h with
  | lst a r n => exact ⟨_, _, rfl, a, r⟩
theorem Dq.tuple {ds : List PyData} (h : Dq H x (.tuple ds)) : ∃ a xs, x = .ref a ∧ H a = some (.tup xs) ∧ DqAll H xs ds := by
  cases h with
  | tup a r n => exact ⟨_, _, rfl, a, r⟩
theorem Dq.strV {z : Str} (h : Dq H x (.str z)) : x = .str z := by cases h; rfl
theorem Dq.intV {i : Int} (h : Dq H x (.int i)) : x = .int i := by cases h; rfl
theorem Dq.boolV {b : Bool} (h : Dq H x (.bool b)) : x = .bl b := by cases h; rfl
theorem Dq.noneV (h : Dq H x .none) : x = .non := by cases h; rfl
theorem Dq.split (h : Dq H x d) : (d = .none ∧ x = .non) ∨ (∃ b, d = .bool b ∧ x = .bl b) ∨ (∃ i, d = .int i ∧ x = .int i) ∨ (∃ z, d = .str z ∧ x = .str z ∧ z.length ≤ 1000000) ∨ (∃ a xs ds, d = .list ds ∧ x = .ref a ∧ H a = some (.lst xs) ∧ DqAll H xs ds ∧ xs.length ≤ 1000000) ∨
    (∃ a xs ds, d = .tuple ds ∧ x = .ref a ∧ H a = some (.tup xs) ∧ DqAll H xs ds ∧ xs.length ≤ 1000000) ∨ ∃ a, d = .dict [] ∧ x = .ref a ∧ H a = some (.dK []) := by
  cases h with
  | non => exact .inl ⟨rfl, rfl⟩
  | bl b => exact .inr (.inl ⟨b, rfl, rfl⟩)
  | int i => exact .inr (.inr (.inl ⟨i, rfl, rfl⟩))
  | str z hz => exact .inr (.inr (.inr (.inl ⟨z, rfl, rfl, hz⟩)))
  | lst a r n => exact .inr (.inr (.inr (.inr (.inl ⟨_, _, _, rfl, rfl, a, r, n⟩))))
  | tup a r n => exact .inr (.inr (.inr (.inr (.inr (.inl ⟨_, _, _, rfl, rfl, a, r, n⟩)))))
  | dic a => exact .inr (.inr (.inr (.inr (.inr (.inr ⟨_, rfl, rfl, a⟩)))))
theorem hu1 {u c : Nat} (h : u + 64 < c) : u + 1 < c := by omega
theorem DqAll.cons_inv {ys : List V} {d : PyData} {ds : List PyData} (h : DqAll H ys (d :: ds)) : ∃ v vs, ys = v :: vs ∧ Dq H v d ∧ DqAll H vs ds := by
  cases h with
  | cons a r => exact ⟨_, _, rfl, a, r⟩
theorem DqAll.nil_inv {ys : List V} (h : DqAll H ys []) : ys = [] := by cases h; rfl
end
/-! ### == of such data -/
section
variable {X : Cx} {pins : List (Addr × Obj)} {σ : L2.St} {H : Hp} {s : Shared}
mutual
theorem Dq.reads (I : Inv X pins σ H s) : ∀ (d : PyData) (v : V) (u : Value), Dq H v d → L2.RelV v u → ∃ as, Reads s.heap u d as
  | .none, _, _, h, r => by
    cases h
    cases r
    exact ⟨_, Reads.none⟩
  | .bool b, _, _, h, r => by
    cases h
    cases r
    exact ⟨_, Reads.bool b⟩
  | .int i, _, _, h, r => by
    cases h
    obtain ⟨t, rfl⟩ := r
    exact ⟨_, Reads.int i t⟩
  | .str x, _, _, h, r => by
    cases h
    obtain ⟨t, rfl⟩ := r
    exact ⟨_, Reads.str x t⟩
  | .list ds, _, _, h, r => by
    cases h with
    | lst hs ha _ =>
      cases r
      obtain ⟨its, rv, ⟨o, n, ho, hc, _, hd⟩, _⟩ := I.list (.inl (.inl hs))
      obtain ⟨as, hr⟩ := Dq.readsAll I ds _ its ha rv
      exact ⟨_, Reads.list ho hc hd hr⟩
  | .tuple ds, _, _, h, r => by
    cases h with
    | tup hs ha _ =>
      cases r
      obtain ⟨its, rv, ⟨o, ho, hc, n, hd⟩, _⟩ := I.tuple (.inl (.inl hs))
      obtain ⟨as, hr⟩ := Dq.readsAll I ds _ its ha rv
      exact ⟨_, Reads.tuple ho hc hd hr⟩
  | .dict kvs, _, _, h, r => by
    cases h with
    | @dic a ha =>
      cases r
      have hx : ObjOk X.prog X.w H s.heap a (.dK []) := I.hok a _ ha
      obtain ⟨_, _, vs, rel, dd⟩ := hx
      cases rel
      obtain ⟨o, es, ep, h1, h2, h3, _, h4, _⟩ := dd
      have e0 : es.toList = [] := by
        revert h4
        generalize es.toList = l
        intro h4
        cases h4
        rfl
      exact ⟨_, Reads.dict (kvs := []) (as := []) (bs := []) h1 h2.1 h3 (by rw [e0]; exact ReadsAll.nil) (by rw [e0]; exact ReadsAll.nil)⟩
theorem Dq.readsAll (I : Inv X pins σ H s) : ∀ (ds : List PyData) (vs : List V) (us : List Value), DqAll H vs ds → Vals vs us → ∃ as, ReadsAll s.heap us ds as
  | [], _, _, h, r => by
    cases h
    cases r
    exact ⟨_, ReadsAll.nil⟩
  | d :: ds, _, _, h, r => by
    cases h with
    | cons h1 h2 =>
      cases r with
      | cons r1 r2 =>
        obtain ⟨as, q1⟩ := Dq.reads I d _ _ h1 r1
        obtain ⟨bs, q2⟩ := Dq.readsAll I ds _ _ h2 r2
        exact ⟨_, ReadsAll.cons q1 q2⟩
end
end

section
variable {X : Cx}
def rEqQ : R2 := fun x y H Q => ∃ d e, Dq H x d ∧ Dq H y e ∧ SeqAt.shaped d = true ∧ SeqAt.shaped e = true ∧ Q (.bl (PyData.eqv d e)) H
def rNeQ : R2 := fun x y H Q => ∃ d e, Dq H x d ∧ Dq H y e ∧ SeqAt.shaped d = true ∧ SeqAt.shaped e = true ∧ Q (.bl (!PyData.eqv d e)) H
theorem op_eqQ (hu : X.A.units + 64 < cLine) : OpR X (compareOp .Eq) rEqQ := by
  intro pins s σ H x y v u Q I rx ry h
  obtain ⟨d, e, hd, he, sd, se, q⟩ := h
  obtain ⟨as, r1⟩ := Dq.reads I d x v hd rx
  obtain ⟨bs, r2⟩ := Dq.reads I e y u he ry
  exact SeqAt.compareEq_shaped r1 r2 sd se hu ⟨.bl _, H, I, rfl, q⟩
theorem op_neQ (hu : X.A.units + 64 < cLine) : OpR X (compareOp .NotEq) rNeQ := by
  intro pins s σ H x y v u Q I rx ry h
  obtain ⟨d, e, hd, he, sd, se, q⟩ := h
  obtain ⟨as, r1⟩ := Dq.reads I d x v hd rx
  obtain ⟨bs, r2⟩ := Dq.reads I e y u he ry
  exact SeqAt.compareNe_shaped r1 r2 sd se hu ⟨.bl _, H, I, rfl, q⟩
end
/-! ### sorted of ints, list(range(n)) -/
section
variable {X : Cx}
theorem k_sortI (K : PySem.W.Frag) (hK : X.K = K := by rfl) : CallR X (.builtin "sorted") (rSortedI K) := hK ▸ cr_sortedI
end
section
variable {K : PySem.W.Frag} {H : Hp} {Q : VK} {σ : L2.St} {ta : TE}
theorem r_sortI {a : Addr} {ns : List Int} (h : SqL K H a (ns.map V.int)) (q : ∀ (ns' : List Int) (l : Addr) H', ns'.Perm ns → ns'.Pairwise (· ≤ ·) → H l = none → Same H H' → H' l = some (.lst (ns'.map V.int)) → Q (.ref l) H') : rSortedI K [.ref a] H Q :=
  ⟨a, ns, rfl, h, fun ns' p h1 h2 hp => q ns' p _ h1 h2 hp (Same.new hp) upd_same⟩
theorem r_lrg0 (q : ta σ H fun x H1 => ∃ n, x = .int n ∧ RgOk 0 n ∧ ∀ q, H1 q = none → Q (.ref q) (upd H1 q (.lst (rgV 0 n)))) : tLstRg (tRg1 ta) σ H Q := q
theorem r_lrg1 {n : Int} {R : V → Hp → Prop} (h : RgOk 0 n) (q : ∀ (l : Addr) H', H l = none → Same H H' → H' l = some (.lst (rgV 0 n)) → R (.ref l) H') : RgOk 0 n ∧ ∀ q, H q = none → R (.ref q) (upd H q (.lst (rgV 0 n))) :=
  ⟨h, fun p hp => q p _ hp (Same.new hp) upd_same⟩
end
/-! ### dicts by texts -/
section
variable {K : PySem.W.Frag} {H : Hp} {D : Ends} {σ : L2.St}
theorem r_din {ty td : TE} {Q : VK} (q : ty σ H fun y H1 => td σ H1 fun x H2 => ∃ a o, x = .ref a ∧ DGet H2 a y o ∧ Q (.bl o.isSome) H2) : tDIn ty td σ H Q := q
theorem r_dnotin {ty td : TE} {Q : VK} (q : ty σ H fun y H1 => td σ H1 fun x H2 => ∃ a o, x = .ref a ∧ DGet H2 a y o ∧ Q (.bl (!o.isSome)) H2) : tDNotIn ty td σ H Q := q
theorem r_dput {td ty tv : TE} (q : tv σ H fun v H1 => td σ H1 fun x H2 => ty σ H2 fun y H3 => ∃ a H4, x = .ref a ∧ DPut H3 a y v H4 ∧ D.nx σ H4) : sDPut td ty tv D σ H := q
theorem r_dgetS {td ty : TE} {Q : VK} (q : td σ H fun x H1 => ty σ H1 fun y H2 => ∃ a v, x = .ref a ∧ DGet H2 a y (some v) ∧ Q v H2) : tDGet td ty σ H Q := q
/-- asked for the text z -/
theorem r_dgs {R : Option V → Prop} {a : Addr} {kvs : List (Key × V)} {z : Str} (h : H a = some (.dK kvs)) (q : R (valV kvs (.inr z))) : ∃ b o, V.ref a = .ref b ∧ DGet H b (.str z) o ∧ R o := ⟨a, _, rfl, DGet.k (k := .inr z) h, q⟩
theorem r_dps {a : Addr} {kvs : List (Key × V)} {z : Str} {v : V} (h : H a = some (.dK kvs)) (hl : kvs.length < sizeLine) (q : ∀ H', But a H H' → H' a = some (.dK (putK kvs (.inr z) v)) → D.nx σ H') : ∃ b H4, V.ref a = .ref b ∧ DPut H b (.str z) v H4 ∧ D.nx σ H4 :=
  ⟨a, _, rfl, .inl ⟨kvs, .inr z, h, rfl, hl, rfl⟩, q _ But.upd upd_same⟩
end
theorem dp_ints {K : PySem.W.Frag} {H : Hp} : ∀ ns : List Int, DpAll K H (ns.map V.int) (ns.map PyData.int)
  | [] => .nil
  | n :: ns => .cons (.int n) (dp_ints ns)
theorem eqvL_ints : ∀ (a b : List Int), PyData.eqvAll (a.map PyData.int) (b.map PyData.int) = decide (a = b)
  | [], [] => rfl
  | [], b :: bs => by simp [PyData.eqvAll]
  | a :: as, [] => by simp [PyData.eqvAll]
  | a :: as, b :: bs => by
    have ih := eqvL_ints as bs
    rw [List.map_cons, List.map_cons, PyData.eqvAll, ih, PyData.eqv, Bool.eq_iff_iff]
    simp
theorem eqv_ints (a b : List Int) : PyData.eqv (.list (a.map PyData.int)) (.list (b.map PyData.int)) = decide (a = b) := by
  rw [PyData.eqv]
  exact eqvL_ints a b
theorem shapedL : ∀ ns : List Int, PyData.canLayAll0 (ns.map PyData.int) = true
  | [] => rfl
  | n :: ns => by
    rw [List.map_cons, PyData.canLayAll0, shapedL ns]
    rfl
theorem depthL : ∀ ns : List Int, PyData.depthAll (ns.map PyData.int) = 0
  | [] => rfl
  | n :: ns => by
    rw [List.map_cons, PyData.depthAll, depthL ns, PyData.depth]
    rfl
theorem shaped_ints (ns : List Int) : SeqAt.shaped (.list (ns.map PyData.int)) = true := by
  unfold SeqAt.shaped
  rw [PyData.canLay0, shapedL, PyData.depth, depthL]
  rfl
theorem putLen {κ : Type} [DecidableEq κ] (kvs : List (κ × V)) (k : κ) (v : V) : (putK kvs k v).length ≤ kvs.length + 1 := by
  unfold putK
  split <;> simp
end Z

/-! Zf: more of lists; a dict == a list. -/
namespace PySem.SeqAt
open AutoSeq1 (wpAny_loadPart')
open MeetsSeq
theorem list_eq_declines_dict (l b : Addr) (items : Array Value) (n : Nat) (dd dd2 : Option Addr) (data2 : Data) (sl sl2 : Array (Option Value)) :
    Meets (Builtin.«list.__eq__» ⟨[.ref l, .ref b], []⟩) (fun _ R s => s.heap.get? l = some { cls := .type "list", dict := dd, data := .seq items n, slots := sl } ∧ s.heap.get? b = some { cls := .type "dict", dict := dd2, data := data2, slots := sl2 } ∧ R (.ok (.ret .notImplemented)) s) :=
  .of_wp fun prog w A R s h => by obtain ⟨hp, g, d, tk, os⟩ := s; obtain ⟨hl, hb, h⟩ := h; have f1 := F.sub_dict_list; wp_walk using wpAny_loadPart' hl, wpAny_loadPart' hb; exact ⟨_, rfl, h⟩
section
variable {A : Around} {s : Shared}
theorem RcAt.dict_list {l b : Addr} {items2 : Array Value} (hl : s.TypeIs (.ref l) "dict") (hb : s.heap.IsList b items2) (hu : A.units < cLine) : RcAt A s (.ref l) (.ref b) false := fun prog w E Q h => by
  obtain ⟨⟨cls, dd, data, sl⟩, ho, hc⟩ := id hl
  obtain ⟨⟨cls2, dd2, data2, sl2⟩, ho2, hc2, n2, hd2⟩ := id hb
  simp only at hc hc2 hd2
  subst hc hc2 hd2
  have hne : l ≠ b := fun e => by
    subst e
    rw [ho] at ho2
    exact absurd (congrArg (fun o : Obj => o.cls) (Option.some.inj ho2)) (by simp)
  have tb : s.TypeIs (.ref b) "list" := ⟨_, ho2, rfl⟩
  refine (rc_eq_decline_or (k := false) hl tb (by decide) F.sub_list_dict F.slot_dict_eq F.slot_list_eq_refl
    (fun Q' hq => ?_)
    (fun _ hq => call_meets F.slot_list_eq_refl ⟨_, ho2, rfl⟩ F.entry_list_eq (F.args_list_eq_2 _ _) (list_eq_declines_dict b l items2 n2 dd2 dd data sl2 sl) ⟨ho2, ho, hq⟩)
    (fun _ hq => wpAny_isSame_ref_other' hne ho ho2 (by simp) hq) (.inr hu) h)
  refine wpAny_call_entry F.slot_dict_eq hl F.entry_dict_eq ?_ (F.args_dict_eq_2 _ _)
  show wpAny _ _ (Builtin.Dict.dictSlotArgs "__eq__" ⟨[.ref l, .ref b], []⟩ >>= _) _ _ s
  refine wpAny_bind ?_
  unfold Builtin.Dict.dictSlotArgs
  refine wpAny_bind (wpAny_notOrdered_dict hl ?_)
  show wpAny _ _ (pure (Value.ref l, Value.ref b)) _ _ s
  refine wpAny_pure ?_
  refine wpAny_bind (wpAny_isInstance (T := "list") tb F.sub_list_dict ?_)
  simp only [Bool.not_false, if_true]
  wp_walk
  exact ⟨_, rfl, hq⟩
end
end PySem.SeqAt
namespace Z
open PySem PySem.Spec PyProof.Rows L2
section
variable {X : Cx}
def rEqDL : R2 := fun x y H Q => ∃ a b kvs ys, x = .ref a ∧ y = .ref b ∧ H a = some (.dK kvs) ∧ H b = some (.lst ys) ∧ Q (.bl false) H
theorem op_eqDL (hu : X.A.units + 64 < cLine) : OpR X (compareOp .Eq) rEqDL := by
  intro pins s σ H x y v u Q I rx ry h
  obtain ⟨a, b, kvs, ys, rfl, rfl, ha, hb, q⟩ := h
  cases rx
  cases ry
  have hx : ObjOk X.prog X.w H s.heap a (.dK kvs) := I.hok a _ ha
  obtain ⟨_, _, vs, rel, dd⟩ := hx
  obtain ⟨its, rv, pl, _⟩ := I.list (.inl (.inl hb))
  exact SeqAt.RcAt.dict_list dd.typeIs pl.isList (by omega) X.prog X.w _ _ ⟨.bl false, H, I, rfl, q⟩
def rEqX (K : PySem.W.Frag) : R2 := fun x y H Q => rEqP K x y H Q ∨ rEqDL x y H Q
theorem k_eqX (K : PySem.W.Frag) (hu : X.A.units + 64 < cLine) (hK : X.K = K := by rfl) : OpR X (compareOp .Eq) (rEqX K) := hK ▸ OpR.or (op_eqP hu) (op_eqDL hu)
theorem k_index (K : PySem.W.Frag) (hK : X.K = K := by rfl) : MtR X "list.index" (rIndex K) := hK ▸ mt_index
def cTup (K : PySem.W.Frag) : List V → Hp → VK → Prop := fun xs H Q => ∃ p ys, xs = [.ref p] ∧ ((SqL K H p ys ∧ ∀ l, H l = none → Q (.ref l) (upd H l (.tup ys))) ∨ (SqT K H p ys ∧ Q (.ref p) H))
theorem k_tuple (K : PySem.W.Frag) (hK : X.K = K := by rfl) : CallR X (.type "tuple") (cTup K) := hK ▸ call_tuple_of
end
section
variable {K : PySem.W.Frag} {H : Hp} {Q : VK}
theorem r_eqXd {x y : V} {d e : PyData} (hd : Dp K H x d) (he : Dp K H y e) (q : Q (.bl (PyData.eqv d e)) H) (h1 : SeqAt.shaped d = true) (h2 : SeqAt.shaped e = true) : rEqX K x y H Q := .inl (.inr ⟨d, e, hd, he, h1, h2, q⟩)
theorem r_eqXl {a b : Addr} {kvs : List (Key × V)} {ys : List V} (ha : H a = some (.dK kvs)) (hb : H b = some (.lst ys)) (q : Q (.bl false) H) : rEqX K (.ref a) (.ref b) H Q := .inr ⟨a, b, kvs, ys, rfl, rfl, ha, hb, q⟩
theorem r_tupL {p : Addr} {xs : List V} (h : SqL K H p xs) (q : ∀ l H', H l = none → Same H H' → H' l = some (.tup xs) → Q (.ref l) H') : cTup K [.ref p] H Q := ⟨p, xs, rfl, .inl ⟨h, fun l hl => q l _ hl (Same.new hl) upd_same⟩⟩
theorem r_popAt {l : Addr} {xs : List V} {n : Nat} {y : V} (h : H l = some (.lst xs)) (hn : n < 2 ^ 62) (hy : xs[n]? = some y) (q : ∀ H', But l H H' → H' l = some (.lst (xs.eraseIdx n)) → Q y H') : rPopAt (.ref l) [.int (n : Int)] H Q := by
  have h1 : n < xs.length := (List.getElem?_eq_some_iff.mp hy).1
  have e : ixN xs.length (n : Int) = some n := by
    unfold ixN
    rw [if_pos (by omega), if_pos (by omega)]
    rfl
  exact ⟨l, xs, n, n, y, rfl, rfl, h, by omega, by omega, (ixN_seq e).1, hy, q _ But.upd upd_same⟩
theorem r_clear {l : Addr} {xs : List V} (h : H l = some (.lst xs)) (q : ∀ H', But l H H' → H' l = some (.lst []) → Q .non H') : rClear (.ref l) [] H Q := ⟨l, xs, rfl, rfl, h, q _ But.upd upd_same⟩
theorem nd_inj {α : Type} {l : List α} (nd : l.Nodup) {i j : Nat} (hi : i < l.length) (hj : j < l.length) (e : l[i] = l[j]) : i = j := by
  have h := List.pairwise_iff_getElem.mp nd
  rcases Nat.lt_trichotomy i j with q | q | q
  · exact absurd e (h i j hi hj q)
  · exact q
  · exact absurd e.symm (h j i hj hi q)
/-- the place of a number in a list of numbers, each once -/
theorem r_indexN {a : Addr} {js : List Nat} {j : Nat} (h : SqL K H a (js.map fun n : Nat => V.int (n : Int))) (nd : js.Nodup) (hj : j < js.length) (q : Q (.int (j : Nat)) H) : rIndex K (.ref a) [.int (js[j] : Nat)] H Q := by
  refine ⟨a, _, _, j, .int (js[j] : Nat), rfl, rfl, h, rfl, ?_, ?_, ?_, ?_, q⟩
  · rw [List.all_map]
    exact List.all_eq_true.mpr fun _ _ => rfl
  · rw [List.getElem?_map, List.getElem?_eq_getElem hj]
    rfl
  · simp [eqV]
  · intro m z' hm hz
    rw [List.getElem?_map, List.getElem?_eq_getElem (by omega)] at hz
    cases hz
    have : js[m] ≠ js[j] := fun e => by
      have := nd_inj nd (by omega) hj e
      omega
    simp [eqV]
    omega
/-- a list so many times -/
theorem r_rep {l : Addr} {xs : List V} {n : Nat} (h : H l = some (.lst xs)) (hz : xs.length * n ≤ 16777216) (hn : n < 2 ^ 62) (q : ∀ p H', H p = none → Same H H' → H' p = some (.lst (List.replicate n xs).flatten) → Q (.ref p) H') : rMulP (.ref l) (.int (n : Int)) H Q := by
  refine .inr ⟨l, n, xs, rfl, rfl, h, by omega, by omega, ?_, fun p hp => ?_⟩
  · rw [show (n : Int).toNat = n by omega]
    exact szl hz
  · rw [show (n : Int).toNat = n by omega]
    exact q p _ hp (Same.new hp) upd_same
end
/-! ### the heap without one -/
section
variable {H H' : Hp} {l a : Addr} {o : HO}
theorem del_sub : Same (L2.del H l) H := fun b o e => by
  by_cases hb : b = l
  · rw [hb, del_same] at e
    cases e
  · rwa [del_ne hb] at e
theorem delS (h : Same H H') : Same (L2.del H l) (L2.del H' l) := fun b o e => by
  by_cases hb : b = l
  · rw [hb, del_same] at e
    cases e
  · rw [del_ne hb] at e ⊢
    exact h _ _ e
theorem delB (h : But l H H') : Same (L2.del H l) (L2.del H' l) := fun b o e => by
  by_cases hb : b = l
  · rw [hb, del_same] at e
    cases e
  · rw [del_ne hb] at e ⊢
    exact h _ _ hb e
theorem delG (h : H a = some o) (n : a ≠ l) : L2.del H l a = some o := by rw [del_ne n]; exact h
end
theorem at_in {xs : List V} {z : Int} (h0 : 0 ≤ z) (h1 : z < xs.length) : ∃ v, atI xs z = some v ∧ v ∈ xs := by
  obtain ⟨j, rfl⟩ : ∃ j : Nat, z = j := ⟨z.toNat, by omega⟩
  have hj : j < xs.length := by omega
  exact ⟨xs[j], atI_nat (List.getElem?_eq_getElem hj), List.getElem_mem hj⟩
/-! ### slices -/
theorem cut_from (xs : List V) (k : Nat) : cutV xs (some (k : Int)) none = xs.drop k := by
  unfold cutV
  rw [HT.sIx_nat, HT.sIx_none]
  by_cases h : k ≤ xs.length
  · rw [Nat.min_eq_left h, List.take_of_length_le]
    rw [List.length_drop]
    exact Nat.le_refl _
  · rw [Nat.min_eq_right (by omega), List.drop_of_length_le (Nat.le_refl _), List.drop_of_length_le (by omega), List.take_nil]
theorem cut_to (xs : List V) (k : Nat) : cutV xs none (some (k : Int)) = xs.take k := by
  unfold cutV
  rw [HT.sIx_nat, HT.sIx_none, List.drop_zero, Nat.sub_zero]
  by_cases h : k ≤ xs.length
  · rw [Nat.min_eq_left h]
  · rw [Nat.min_eq_right (by omega), List.take_of_length_le (Nat.le_refl _), List.take_of_length_le (by omega)]
theorem cut_neg1 (xs : List V) : cutV xs none (some (-1)) = xs.dropLast := by
  unfold cutV
  have e : HT.sIx xs.length xs.length (some (-1)) = xs.length - 1 := by
    show (if (-1 : Int) < 0 then ((-1 : Int) + (xs.length : Int)).toNat else min (-1 : Int).toNat xs.length) = _
    rw [if_pos (by decide)]
    omega
  rw [e, HT.sIx_none, List.drop_zero, Nat.sub_zero, List.dropLast_eq_take]
theorem at_neg1 {xs : List V} {v : V} (h : xs.getLast? = some v) : atI xs (-1) = some v := by
  unfold atI ixN
  have hn : xs ≠ [] := fun e => by
    rw [e] at h
    cases h
  have hl : 0 < xs.length := List.length_pos_iff.mpr hn
  rw [if_neg (by decide), if_pos (by omega), Option.bind_some]
  rw [List.getLast?_eq_getElem?] at h
  rw [show ((-1 : Int) + (xs.length : Int)).toNat = xs.length - 1 by omega]
  exact h
theorem DqAll.at {H : Hp} {xs : List V} {ds : List PyData} (h : DqAll H xs ds) {z : Int} (h0 : 0 ≤ z) (h1 : z < xs.length) : ∃ v d, atI xs z = some v ∧ Dq H v d ∧ d ∈ ds := by
  obtain ⟨j, rfl⟩ : ∃ j : Nat, z = j := ⟨z.toNat, by omega⟩
  have hj : j < xs.length := by omega
  have hj2 : j < ds.length := by rw [← h.length]; exact hj
  exact ⟨xs[j], ds[j], atI_nat (List.getElem?_eq_getElem hj), h.get j hj hj2, List.getElem_mem hj2⟩
/-! ### data without dicts: as Dp -/
mutual
theorem Dq.dp {K : PySem.W.Frag} {H : Hp} : ∀ {v : V} {d : PyData}, Dq H v d → PyData.canLay0 d = true → Dp K H v d
  | _, _, .non, _ => .non
  | _, _, .bl b, _ => .bl b
  | _, _, .int i, _ => .int i
  | _, _, .str x _, _ => .str x
  | _, _, .lst h r _, c => .lst (sqL h) (DqAll.dp r c)
  | _, _, .tup h r _, c => .tup (sqT h) (DqAll.dp r c)
  | _, _, .dic _, c => nomatch c
theorem DqAll.dp {K : PySem.W.Frag} {H : Hp} : ∀ {vs : List V} {ds : List PyData}, DqAll H vs ds → PyData.canLayAll0 ds = true → DpAll K H vs ds
  | _, _, .nil, _ => .nil
  | _, _, .cons h r, c => by
    rw [PyData.canLayAll0, Bool.and_eq_true_iff] at c
    exact .cons (Dq.dp h c.1) (DqAll.dp r c.2)
end
theorem shaped_lay {d : PyData} (h : SeqAt.shaped d = true) : PyData.canLay0 d = true := (Bool.and_eq_true_iff.mp h).1
theorem r_xf0 {a C : Addr} {cls : Value} {d : Option Addr} {f : Str} {te : TE} {σ : L2.St} {H : Hp} {Q : VK} (q : te σ H fun x H1 => x = .ref a ∧ cls = .ref C ∧ ∃ (dd : Addr) (fs : List (Str × V)) (v : V), d = some dd ∧ H1 dd = some (.xd fs) ∧ fs.lookup f = some v ∧ Q v H1) : tXf a cls d C f te σ H Q := q
theorem r_indexI {K : PySem.W.Frag} {H : Hp} {Q : VK} {a : Addr} {js : List Nat} {j n : Nat} (h : SqL K H a (js.map fun n : Nat => V.int (n : Int))) (nd : js.Nodup) (hj : j < js.length) (e : js[j] = n) (q : Q (.int (j : Nat)) H) : rIndex K (.ref a) [.int (n : Int)] H Q := by
  subst e
  exact r_indexN h nd hj q
/-- a slice of whole numbers -/
theorem cut_ints (ns : List Int) (lo hi : Option Int) : ∃ cs : List Int, cutV (ns.map V.int) lo hi = cs.map V.int ∧ cs.length ≤ ns.length := by
  unfold cutV
  refine ⟨(ns.drop (HT.sIx (ns.map V.int).length 0 lo)).take (HT.sIx (ns.map V.int).length (ns.map V.int).length hi - HT.sIx (ns.map V.int).length 0 lo), ?_, ?_⟩
  · rw [List.map_take, List.map_drop]
  · rw [List.length_take, List.length_drop]
    omega
end Z

/-! Zs: len(set(xs)), xs a list of any number of texts. -/
namespace Z
open PySem PySem.Spec PyProof.Rows
/-- how many unlike ones are among the first i -/
def cntS (zs : List Str) : Nat → Nat
  | 0 => 0
  | i + 1 => if (zs.take i).any (· == zs.getD i Str.empty) = true then cntS zs i else cntS zs i + 1
theorem cntS_le (zs : List Str) : ∀ i, cntS zs i ≤ i
  | 0 => Nat.le_refl _
  | i + 1 => by
    have := cntS_le zs i
    rw [cntS]
    split <;> omega
/-- all unlike -/
theorem cntS_nd (zs : List Str) : ∀ i, i ≤ zs.length → (cntS zs i = i ↔ (zs.take i).Nodup)
  | 0, _ => by simp [cntS]
  | i + 1, h => by
    have ih := cntS_nd zs i (by omega)
    have hle := cntS_le zs i
    have e : zs.getD i Str.empty = zs[i] := by
      rw [List.getD_eq_getElem?_getD, List.getElem?_eq_getElem (by omega)]
      rfl
    rw [cntS, e, ← List.take_append_getElem (by omega), List.nodup_append]
    have hany : ((zs.take i).any fun x => x == zs[i]) = decide (zs[i] ∈ zs.take i) := by
      rw [Bool.eq_iff_iff, decide_eq_true_iff, List.any_eq_true]
      constructor
      · rintro ⟨x, hx, ex⟩
        exact eq_of_beq ex ▸ hx
      · exact fun hm => ⟨_, hm, beq_self_eq_true _⟩
    rw [hany]
    by_cases hm : zs[i] ∈ zs.take i
    · rw [decide_eq_true hm, if_pos rfl]
      constructor
      · intro q
        omega
      · intro q
        exact absurd rfl (q.2.2 _ hm _ List.mem_cons_self)
    · rw [decide_eq_false hm, if_neg Bool.false_ne_true]
      constructor
      · intro q
        refine ⟨ih.mp (by omega), List.pairwise_singleton _ _, fun a ha b hb => ?_⟩
        rw [List.mem_singleton] at hb
        subst hb
        exact fun z => hm (z ▸ ha)
      · intro q
        have := ih.mpr q.1
        omega
/-- an empty one, as the class makes it -/
def set0 (led : Bool) : Obj := { cls := .type "set", dict := none, data := .set #[] 0 (.fresh 0 0 led) }
section
variable {prog : Program} {w : World} {Ar : Around} {Ok : Result → Shared → Prop} {It : Addr} {fp wr : List Addr} {G : Array GenState → Array GenState → Prop} {n : Nat} {Pv : Nat → Value → Prop} {Sv : Nat → Shared → Prop}
/-- what is in it between the turns -/
abbrev Has (prog : Program) (w : World) (B : Addr) (zs : List Str) (i : Nat) (h : Heap) : Prop := h.SetOf (strKind prog w) B (fun z => (zs.take i).any (· == z)) (cntS zs i)
theorem Has.keep {B : Addr} {zs : List Str} {i : Nat} {h h' : Heap} (q : Has prog w B zs i h) (k : ∀ o, h.get? B = some o → h'.get? B = some o) : Has prog w B zs i h' := by
  obtain ⟨o, r⟩ := q
  obtain ⟨es, ep, t, ho, r⟩ := r
  exact ⟨o, es, ep, t, k o ho, r⟩
theorem Has.more {B : Addr} {zs : List Str} {i : Nat} {h : Heap} (hi : i < zs.length)
    (q : h.SetOf (strKind prog w) B (fun z => (zs.take i).any (· == z) || decide (z = zs.getD i Str.empty)) (if (zs.take i).any (· == zs.getD i Str.empty) = true then cntS zs i else cntS zs i + 1)) : Has prog w B zs (i + 1) h := by
  refine SetOf_congr q (fun z => ?_) rfl
  have e : zs.getD i Str.empty = zs[i] := by
    rw [List.getD_eq_getElem?_getD, List.getElem?_eq_getElem hi]
    rfl
  rw [← List.take_append_getElem hi, List.any_append, e]
  congr 1
  rw [List.any_cons, List.any_nil, Bool.or_false, Bool.eq_iff_iff, decide_eq_true_iff, beq_iff_eq]
  exact eq_comm
theorem setLoop (Wk : WalksS prog w Ar.in1 It fp wr G n Pv Sv) (B : Addr) (hB : B ∉ fp) (zs : List Str) (hn : zs.length = n) (room : n + 1 < scanBound) (vals : ∀ j v, Pv j v → ∃ t, v = .str (zs.getD j Str.empty) t) :
    ∀ (left i : Nat) (sh : Shared), n - i = left → i ≤ n → Sv i sh → Has prog w B zs i sh.heap → (∀ sh', Moved (B :: wr) G sh sh' → Has prog w B zs n sh'.heap → Ok (.ok (.ret .none)) sh') →
      codeAny (model prog w) Ar (.builtin "set.update.loop" ⟨[.ref B, .ref It], []⟩) Ok sh := by
  have nw : B ∉ wr := fun q => hB (Wk.sub _ q)
  have more : ∀ b ∈ wr, b ∈ B :: wr := fun b q => List.mem_cons_of_mem _ q
  intro left
  induction left with
  | zero =>
    intro i sh e1 e2 st has fin
    obtain rfl : i = n := by omega
    refine codeAny_builtin PyProof.Rows.F.entry_set_update_loop ?_
    rw [Around.under_plainId PyProof.Rows.F.plain_set_update_loop _]
    show wpAny _ Ar.in1 (pyNext (.ref It) >>= _) _ _ sh
    refine wpAny_bind (Wk.done sh _ _ st fun sh' mv => ?_)
    show wpAny _ Ar.in1 (ret Value.none) _ _ sh'
    exact wpAny_pure (fin sh' (mv.mono more) (has.keep fun o e => mv.heap B o nw e))
  | succ left ih =>
    intro i sh e1 e2 st has fin
    have lt : i < n := by omega
    refine codeAny_builtin PyProof.Rows.F.entry_set_update_loop ?_
    rw [Around.under_plainId PyProof.Rows.F.plain_set_update_loop _]
    show wpAny _ Ar.in1 (pyNext (.ref It) >>= _) _ _ sh
    refine wpAny_bind (Wk.item i sh _ _ lt st fun v sh' pv st' mv => ?_)
    obtain ⟨tk, rfl⟩ := vals i v pv
    have has' : Has prog w B zs i sh'.heap := has.keep fun o e => mv.heap B o nw e
    show wpAny _ Ar.in1 (holding [Value.str (zs.getD i Str.empty) tk] (setAdd B (.str (zs.getD i Str.empty) tk)) >>= _) _ _ sh'
    refine wpAny_bind (wpAny_holding ?_)
    unfold setAdd
    refine wpAny_holding (wpAny_bind ((strKind prog w).pyHash (k := zs.getD i Str.empty) (strKind_is _ _ _ _) ?_))
    have rm : cntS zs i + 1 < scanBound := by
      have := cntS_le zs i
      omega
    refine wpAny_setAddHashed_of (knd := strKind prog w) (s := { sh' with toks := sh'.toks + 1 }) (strKind_is _ _ _ _) rfl has' rm fun h2 but set2 => ?_
    have off : ∀ b, b ≠ B → ∀ o, sh'.heap.get? b = some o → h2.get? b = some o := fun b nb o e => (but.2 b nb).trans e
    have has2 : Has prog w B zs (i + 1) h2 := Has.more (by omega) set2
    refine wpAny_pure ⟨plainId_quiet PyProof.Rows.F.plain_set_update_loop _, ih (i + 1) { sh' with heap := h2, toks := sh'.toks + 1 } (by omega) lt (Wk.frame _ sh' _ _ st' (Nat.le_succ _) fun b q o e => off b (fun z => hB (z ▸ q)) o e) has2 fun sh3 mv3 has3 => ?_⟩
    exact fin sh3 (Moved.trans Wk.gtrans ((mv.mono more).then_heap (Nat.le_succ _) fun b o q e => off b (fun z => q (by rw [z]; exact List.mem_cons_self)) o e) mv3) has3
end
section
variable {prog : Program} {w : World} {Ar : Around} {Er : Value → Shared → Prop} {sh : Shared}
set_option maxHeartbeats 3200000 in
/-- set(xs): the call -/
theorem setCall {a : Addr} {its : Array Value} {zs : List Str} {Q : Value → Shared → Prop} (nh : Ar.handled = none) (ls : sh.heap.IsList a its) (tx : StrsAre its.toList zs) (room : its.size + 1 < scanBound)
    (q : ∀ (h2 : Heap) (tk : Nat), Has prog w sh.heap.objs.size zs its.size h2 → (∀ b o, b < sh.heap.objs.size → sh.heap.get? b = some o → h2.get? b = some o) → Q (.ref sh.heap.objs.size) { sh with heap := h2, toks := tk }) :
    wpAny (model prog w) Ar (call (.type "set") [.ref a]) Q Er sh := by
  obtain ⟨mc, mt, m1⟩ := PySem.F.called_set.mro
  have m2 := PySem.F.called_set.made
  have m3 := PySem.F.called_set.sub
  have m4 := PySem.F.called_set.notType
  have m5 := PySem.F.called_set.canCreate
  have m6 := PySem.F.typeCall_set_1 (.ref a)
  refine wpAny_call (codeAny_of_tree ?_)
  show wpAny _ _ (callAny (.type "set") _) _ _ _
  refine wpAny_pure ⟨Code.quiet_builtin _ (by decide +kernel), codeAny_builtin PySem.F.entry_type_call ?_⟩
  rw [Around.under_plain (weight_type_call_type "set" [.ref a] []) rfl]
  repeat (any_goals (first | assumption | wp_step))
  refine codeAny_mono (code_set_new_1 (.ref a) (E := Er) (Q₁ := fun v s1 => ∃ led : Bool, v = .ref sh.heap.objs.size ∧ s1 = { sh with heap := sh.heap.push (set0 led) }) fun led => ⟨led, rfl, rfl⟩) fun r s1 h1 => ?_
  cases r with
  | error e => exact h1
  | ok fl =>
    cases fl with
    | ret v =>
      obtain ⟨led, rfl, rfl⟩ := h1
      have there : (sh.heap.push (set0 led)).get? sh.heap.objs.size = some (set0 led) := Heap.get?_push_size _ rfl
      have ty : Shared.TypeIs { sh with heap := sh.heap.push (set0 led) } (.ref sh.heap.objs.size) "set" := ⟨_, there, rfl⟩
      have i1 := PySem.F.called_set.init.lookup
      have i2 := PySem.F.called_set.init.bind (.ref sh.heap.objs.size)
      repeat (any_goals (first | assumption | wp_step))
      refine codeAny_mono (codeAny_call_builtin (R := wants (fun v s2 => v = .none ∧ ∃ h2 tk, s2 = { sh with heap := h2, toks := tk } ∧ Has prog w sh.heap.objs.size zs its.size h2 ∧
          (∀ b o, b < sh.heap.objs.size → sh.heap.get? b = some o → h2.get? b = some o)) Er) PySem.F.called_set.init.plain PySem.F.entry_set_init (check_set_init_1 ty ?_)) fun r2 s2 h2 => ?_
      · obtain ⟨⟨lc, ld, ldt, lsl⟩, lo, lcl, ln, ldd⟩ := ls
        simp only at lcl ldd
        subst lcl; subst ldd
        have lo2 : (sh.heap.push (set0 led)).get? a = some { cls := .type "list", dict := ld, data := .seq its ln, slots := lsl } := Heap.get?_push_of_some _ lo
        have u1 := PySem.F.sub_list_set
        have u2 := PySem.F.sub_list_frozenset
        have u3 : (Value.type "list" == Value.type "dict") = false := by decide
        have ls2 : (sh.heap.push (set0 led)).IsList a its := ⟨_, lo2, rfl, ln, rfl⟩
        unfold Builtin.«set.__init__» noKeywords Builtin.Frozenset.updateFrom
        generalize hPy : pyIter = Py
        wp_walk
        subst hPy
        refine wpAny_pyIter_list ls2 (wpAny_bind (wpAny_runValue ?_))
        have lt : a < sh.heap.objs.size := Heap.lt_size lo
        have nh3 : Ar.in1.in1.in1.handled = none := by simp [nh]
        have n1 : a ≠ (sh.heap.push (set0 led)).objs.size := by
          rw [Heap.size_push]
          exact Nat.ne_of_lt (Nat.lt_succ_of_lt lt)
        have n2 : sh.heap.objs.size ∉ [(sh.heap.push (set0 led)).objs.size, a] := by
          rw [Heap.size_push]
          intro z
          rcases List.mem_cons.mp z with z | z
          · exact absurd z (Nat.ne_of_lt (Nat.lt_succ_self _))
          · exact Nat.ne_of_gt lt (List.mem_singleton.mp z)
        have hz : zs.length = its.size := by rw [← StrsAre.len_eq tx, Array.length_toList]
        refine setLoop ((Walks.list nh3 _ a n1 its).toS) sh.heap.objs.size n2 zs hz room (fun i v e => SS.strs_at tx i v (by rw [Array.getElem?_toList]; exact e)) (its.size - 0) 0 _ (by omega) (Nat.zero_le _)
          ⟨⟨_, Heap.get?_push_size _ rfl, rfl, rfl⟩, (ls2.push _)⟩ ?start ?done
        case start =>
          have there2 : ((sh.heap.push (set0 led)).push { cls := .type "list_iterator", data := .fields #[.ref a, .int 0 0] }).get? sh.heap.objs.size = some (set0 led) := Heap.get?_push_of_some _ there
          exact SetOf_congr ((setObjOf_fresh (knd := strKind prog w) led).setOf there2 (by unfold scanBound; omega)) (fun _ => rfl) rfl
        case done =>
          rintro ⟨h3, g3, d3, t3, o3⟩ mv has3
          obtain rfl : g3 = sh.gens := mv.gens
          obtain rfl : d3 = sh.drawn := mv.drawn
          obtain rfl : o3 = sh.os := mv.os
          show wpAny _ _ _ _ _ _
          refine wpAny_pure ?_
          show wpAny _ _ (ret Value.none) _ _ _
          refine wpAny_pure ⟨rfl, h3, t3, rfl, has3, fun b o lb e => mv.heap b o ?_ (Heap.get?_push_of_some _ (Heap.get?_push_of_some _ e))⟩
          rw [Heap.size_push]
          intro z
          rcases List.mem_cons.mp z with z | z
          · exact Nat.ne_of_lt lb z
          · exact Nat.ne_of_lt (Nat.lt_succ_of_lt lb) (List.mem_singleton.mp z)
      · cases r2 with
        | error e => exact h2
        | ok f2 =>
          cases f2 with
          | ret r =>
            obtain ⟨rfl, h3, tk, rfl, has3, kp⟩ := h2
            repeat (any_goals (first | assumption | wp_step))
            exact q _ _ has3 kp
          | _ => exact h2.elim
    | _ => exact h1.elim
end
section
open L2
variable {X : Cx}
/-- len(set(e)), e a list of texts -/
def tLenSetS (K : PySem.W.Frag) (ta : TE) : TE := fun σ H Q => ta σ H fun x H1 => ∃ l, ∃ zs : List Str, x = .ref l ∧ SqL K H1 l (zs.map V.str) ∧ zs.length ≤ 40 ∧ Q (.int (cntS zs zs.length : Nat)) H1
theorem pe_lenSetS (K : PySem.W.Frag) {e : Expr} {ta : TE} {p p2 p3 pos : Pos} (hc : X.calm = true) (hg : Gl X "len") (hm : X.mg "len" = none) (hg2 : Gl X "set") (hm2 : X.mg "set" = none) (ha : PE X e ta) (hK : X.K = K := by rfl)
    (na : starEach [e] X.env = (false, eval e X.env) :: starEach [] X.env := by rfl) : PE X (.Call (.Name "len" p) [.Call (.Name "set" p2) [e] [] p3] [] pos) (tLenSetS K ta) := by
  subst hK
  refine ⟨fun pins s σ H Q I h => Call_ (ld_blt I hg hm boot_len ?_)⟩
  refine callWith_builtin1 (args_cons (Call_ (ld_blt I hg2 hm2 boot_set ?_)) rfl) rfl rfl
  refine callWith_type1 (args_cons (thn (ha.run pins s σ H _ I h) fun v s1 z => args_nil ?_) na) na rfl
  obtain ⟨x, H1, I1, rx, l, zs, rfl, hl, hz, q⟩ := z
  cases rx
  obtain ⟨its, r, pl, _⟩ := I1.list hl
  have el : its.toArray.size = zs.length := by rw [List.size_toArray, ← r.length, List.length_map]
  refine setCall (I1.ok.hd hc) pl.isList (by simpa using strsAre_of r) (by unfold scanBound; omega) fun h2 tk has kp => args_nil ?_
  rw [el] at has
  obtain ⟨o, es, ep, t, ho, hex, hd, _, _, _, hf, hn⟩ := has
  have I2 : Inv X pins σ H1 { s1 with heap := h2, toks := tk } := I1.kept fun b o e => kp b o (Heap.lt_size e) e
  have := cntS_le zs zs.length
  exact call_len_set ho hex hd hf (by rw [hn]; omega) ⟨.int (cntS zs zs.length : Nat), H1, I2.tok _, ⟨_, by rw [hn]⟩, q⟩
theorem r_lenSetS {K : PySem.W.Frag} {ta : TE} {σ : L2.St} {H : Hp} {Q : VK} (q : ta σ H fun x H1 => ∃ l, ∃ zs : List Str, x = .ref l ∧ SqL K H1 l (zs.map V.str) ∧ zs.length ≤ 40 ∧ Q (.int (cntS zs zs.length : Nat)) H1) : tLenSetS K ta σ H Q := q
end
end Z

/-! Zg: xs[::-1]; max of a list; what is new. -/
namespace Z
open PySem PySem.Spec PyProof.Rows L2
section
variable {X : Cx} {e : Expr} {te : TE} {k : Nat} {p1 p2 p3 pos : Pos}
theorem k_revL (K : PySem.W.Frag) (he : PE X e te) (hK : X.K = K := by rfl) : PE X (.Subscript e (.Slice none none (some (.UnaryOp .USub (.Constant (.int 1) k p1) p2)) p3) pos) (tRevL K te) := hK ▸ pe_revL he
end
section
variable {K : PySem.W.Frag} {H : Hp} {Q : VK} {σ : L2.St} {te : TE}
def RevW (x : V) (H : Hp) (Q : VK) (K : PySem.W.Frag) : Prop := ∃ a xs, x = .ref a ∧ SqL K H a xs ∧ ∀ p, H p = none → Q (.ref p) (upd H p (.lst xs.reverse))
theorem r_revL (q : te σ H fun x H1 => RevW x H1 Q K) : tRevL K te σ H Q := q
theorem r_revW {a : Addr} {xs : List V} (h : SqL K H a xs) (q : ∀ p H', H p = none → Same H H' → H' p = some (.lst xs.reverse) → Q (.ref p) H') : RevW (.ref a) H Q K := ⟨a, xs, rfl, h, fun p hp => q p _ hp (Same.new hp) upd_same⟩
end
theorem DqAll.dels {H H' : Hp} {l : Addr} {xs : List V} {ds : List PyData} (h : DqAll (L2.del H l) xs ds) (e : Same H H') : DqAll (L2.del H' l) xs ds := h.up (delS e)
/-- a comprehension whose variables are named as the def's own -/
theorem lcWw {σ σ0 : L2.St} {H : Hp} {Q : VK} {g : TG} {tt : TT} {te : TE} {vs : List Nat} {J : It} (hw : wipe σ vs = σ0) (h0 : wipe σ0 vs = σ0) (q : LcQ σ0 g tt te vs Q J H) : LcQ σ g tt te vs Q J H := by
  unfold LcQ at q ⊢
  rw [h0] at q
  rw [hw]
  exact q
section
variable {X : Cx}
theorem k_maxL (K : PySem.W.Frag) (hc : X.calm = true) (hK : X.K = K := by rfl) : CallR X (.builtin "max") (rMax K) := hK ▸ cr_max hc
def cIntB : List V → Hp → VK → Prop := fun xs H Q => (∃ i, xs = [.int i] ∧ Q (.int i) H) ∨ ∃ k, xs = [.bl k] ∧ Q (.int (if k then 1 else 0)) H
theorem call_intB : CallR X (.type "int") cIntB := call_int1
theorem r_intB {k : Bool} {H : Hp} {Q : VK} (q : Q (.int (if k then 1 else 0)) H) : cIntB [.bl k] H Q := .inr ⟨k, rfl, q⟩
end
section
variable {K : PySem.W.Frag} {σ : L2.St} {H : Hp} {Q : VK} {g : TG} {tt : TT} {te : TE} {vs : List Nat} {J : It} {n : Nat} {G : Hp → Prop} {Y : Nat → Hp → V → Hp → Prop}
/-- lcW, where what stands between the turns may speak of the new list's place -/
theorem lcW2 (w : Walk J n G Y) (R : Addr → Nat → List V → Hp → Prop) (hw : wipe σ vs = σ) (hG : ∀ H', Same H H' → G H') (h0 : ∀ Dl H', H Dl = none → Same H H' → R Dl 0 [] H')
    (hs : ∀ i x acc Dl H' H'', i < n → H Dl = none → Same H H' → H' Dl = some (.lst acc) → acc.length ≤ i → R Dl i acc H' → Y i H' x H'' → g x σ H'' fun σ2 H2 => wipe σ2 vs = σ ∧ tt σ2 H2 fun b H3 =>
      if b = true then te σ2 H3 (LcP H Dl (R Dl) (i + 1)) else LcI H Dl (R Dl) (i + 1) H3)
    (hd : ∀ acc Dl H', H Dl = none → Same H H' → H' Dl = some (.lst acc) → R Dl n acc H' → Q (.ref Dl) H') : LcQ σ g tt te vs Q J H := by
  intro Dl hD
  rw [hw]
  refine Eq.mp (by rw [hw]) (lc_it (σ := σ) (vs := vs) (g := g) (tt := tt) (te := te) (H1 := H) (D := Dl) (Qd := fun H' => Q (.ref Dl) H') w (LcI H Dl (R Dl)) ⟨[], Nat.le_refl _, Same.new hD, upd_same, h0 Dl _ hD (Same.new hD)⟩ (fun i H' _ ⟨_, _, e, _⟩ => hG H' e) (fun i x H' H'' hi ⟨acc, hl, e, ed, r⟩ y => ?_) fun H' ⟨acc, _, e, ed, r⟩ => hd acc Dl H' hD e ed r)
  rw [hw]
  exact hs i x acc Dl H' H'' hi hD e ed hl r y
end
end Z
namespace Z
open PySem PySem.Spec PyProof.Rows L2
/-- an exception kept at a new place, behind a change at l -/
theorem keepE {X G2 G3 : Hp} {ea l : Addr} {o : HO} (e : Same X G2) (he : G2 ea = none) (hX : X l = none) (b : But l G2 G3) : Same X (upd G3 ea o) := fun c u h => by
  have h2 := e c u h
  rw [upd_ne (ne_of_none h2 he)]
  exact b c u (ne_of_none h hX) h2
theorem toDel {X G : Hp} {l : Addr} (e : Same X G) (hX : X l = none) : Same X (L2.del G l) := fun c u h => by
  rw [del_ne (ne_of_none h hX)]
  exact e c u h
end Z

/-! the mathematics of fractions written and read -/
namespace M
open PySem L2 TL SX

/-- the codes of a whole number -/
def intL (n : Int) : List Nat := if n < 0 then 45 :: numL n.natAbs else numL n.natAbs
theorem int_S' (n : Int) : Str.ofString (toString n) = S (intL n) := by
  unfold intL
  cases n with
  | ofNat m =>
    rw [if_neg (by have : (0 : Int) ≤ Int.ofNat m := Int.natCast_nonneg m; omega)]
    exact num_S m
  | negSucc m =>
    rw [if_pos (Int.negSucc_lt_zero m)]
    refine ext_tl ?_
    have e : toString (Int.negSucc m) = "-" ++ toString (m + 1) := rfl
    rw [e, tl_ofString]
    have h2 := tl_num (m + 1)
    have e2 : toString (((m + 1 : Nat) : Int)) = toString (m + 1) := rfl
    rw [e2, tl_ofString] at h2
    rw [String.toList_append, List.map_append, h2]
    rfl
/-- a fraction's codes -/
def fracL (n : Int) (d : Nat) : List Nat := if d = 1 then intL n else intL n ++ 47 :: numL d

def digit (c : Nat) : Bool := decide (48 ≤ c ∧ c ≤ 57)
/-- the number that codes write, at most m of them, no nought ahead -/
def wholeIn (l : List Nat) (m : Nat) : Option Nat := if 1 ≤ l.length ∧ l.length ≤ m ∧ ¬ (1 < l.length ∧ l.head? = some 48) ∧ l.all digit = true then some (NumText.digitsVal l) else none
theorem fig_mem (c : Nat) : decide (c ∈ (Str.ofString "0123456789").cps.toList) = digit c := by
  have e : (Str.ofString "0123456789").cps.toList = [48, 49, 50, 51, 52, 53, 54, 55, 56, 57] := by decide +kernel
  rw [e]
  unfold digit
  rw [decide_eq_decide]
  simp only [List.mem_cons, List.not_mem_nil, or_false]
  omega
theorem numL_head : ∀ (n : Nat), 10 ≤ n → (numL n).head? ≠ some 48 := by
  intro n
  induction n using Nat.strongRecOn with
  | _ n ih =>
    intro h
    rw [numL_step h]
    by_cases h2 : n / 10 < 10
    · rw [numL_lt h2]
      intro z
      have : 48 + n / 10 = 48 := Option.some.inj z
      omega
    · intro z
      refine ih (n / 10) (by omega) (by omega) ?_
      cases e : numL (n / 10) with
      | nil => exact absurd e (numL_ne _)
      | cons a r =>
        rw [e] at z
        exact z
theorem numL_all (n : Nat) : (numL n).all digit = true := by
  rw [List.all_eq_true]
  intro c hc
  have := numL_digits n c hc
  exact decide_eq_true this
theorem wholeIn_num {n m : Nat} (h : (numL n).length ≤ m) : wholeIn (numL n) m = some n := by
  unfold wholeIn
  rw [if_pos, numL_val]
  refine ⟨?_, h, ?_, numL_all n⟩
  · cases e : numL n with
    | nil => exact absurd e (numL_ne _)
    | cons a r => simp
  · rintro ⟨h1, h2⟩
    by_cases h3 : n < 10
    · rw [numL_lt h3] at h1
      simp at h1
    · exact numL_head n (by omega) h2
def sgn (neg : Bool) (a : Nat) : Int := if neg then -(a : Int) else a
/-- the fraction that codes write -/
def fracOf (neg : Bool) (nums : List (Option Nat)) : Option (Int × Nat) := match nums with
  | [some a] => if neg = true ∧ a = 0 then none else some (sgn neg a, 1)
  | [some a, some b] => if b < 2 ∨ neg = true ∧ a = 0 then none else if Nat.gcd b a = 1 then some (sgn neg a, b) else none
  | _ => none
def isNeg (l : List Nat) : Bool := decide (l.head? = some 45)
def figs (l : List Nat) : List Nat := if isNeg l = true then l.tail else l
def numsIn (l : List Nat) (m : Nat) : List (Option Nat) := (spl [47] 0 [] (figs l)).map fun p => wholeIn p m
def fracIn (l : List Nat) (m : Nat) : Option (Int × Nat) := fracOf (isNeg l) (numsIn l m)
theorem intL_neg (n : Int) : isNeg (intL n) = decide (n < 0) := by
  unfold isNeg intL
  rw [decide_eq_decide]
  by_cases h : n < 0
  · rw [if_pos h]
    simp [h]
  · rw [if_neg h]
    constructor
    · intro z
      have hm : 45 ∈ numL n.natAbs := by
        cases e : numL n.natAbs with
        | nil =>
          rw [e] at z
          cases z
        | cons a r =>
          rw [e] at z
          have : a = 45 := Option.some.inj z
          rw [this]
          exact List.mem_cons_self
      exact absurd hm (numL_free (by omega))
    · intro z
      exact absurd z h
theorem intL_figs (n : Int) : figs (intL n) = numL n.natAbs := by
  unfold figs
  rw [intL_neg]
  unfold intL
  by_cases h : n < 0
  · rw [if_pos (decide_eq_true h), if_pos h]
    rfl
  · rw [if_neg (by simpa using h), if_neg h]
theorem isNeg_app {l r : List Nat} (h : l ≠ []) : isNeg (l ++ r) = isNeg l := by
  cases l with
  | nil => exact absurd rfl h
  | cons a l => rfl
theorem figs_app {l r : List Nat} (h : l ≠ []) : figs (l ++ r) = figs l ++ r := by
  unfold figs
  rw [isNeg_app h]
  by_cases c : isNeg l = true
  · rw [if_pos c, if_pos c]
    cases l with
    | nil => exact absurd rfl h
    | cons a l => rfl
  · rw [if_neg c, if_neg c]
theorem intL_ne (n : Int) : intL n ≠ [] := by
  unfold intL
  split
  · simp
  · exact numL_ne _
theorem sgn_abs (n : Int) : sgn (decide (n < 0)) n.natAbs = n := by
  unfold sgn
  by_cases h : n < 0
  · rw [if_pos (decide_eq_true h)]
    omega
  · rw [if_neg (by simpa using h)]
    omega
/-- what is written is read -/
theorem frac_back {n : Int} {d m : Nat} (hn : (numL n.natAbs).length ≤ m) (hd : (numL d).length ≤ m) (h0 : 0 < d) (hg : Nat.gcd d n.natAbs = 1) : fracIn (fracL n d) m = some (n, d) := by
  unfold fracIn fracL numsIn
  by_cases h1 : d = 1
  · rw [if_pos h1, intL_neg, intL_figs, spl_last1 (numL_free (by omega))]
    show fracOf _ [wholeIn ([] ++ numL n.natAbs) m] = _
    rw [List.nil_append, wholeIn_num hn]
    show (if _ then _ else _) = _
    rw [if_neg, sgn_abs, h1]
    rintro ⟨a, b⟩
    have := of_decide_eq_true a
    omega
  · rw [if_neg h1, isNeg_app (intL_ne n), intL_neg, figs_app (intL_ne n), intL_figs]
    have e : spl [47] 0 [] (numL n.natAbs ++ 47 :: numL d) = [numL n.natAbs, numL d] := by
      have a := spl_part1 (s := 47) (S := []) (p := numL n.natAbs) (rest := numL d) (acc := []) (numL_free (by omega))
      rw [spl_last1 (numL_free (by omega))] at a
      simpa using a
    rw [e]
    show fracOf _ [wholeIn (numL n.natAbs) m, wholeIn (numL d) m] = _
    rw [wholeIn_num hn, wholeIn_num hd]
    show (if _ then _ else _) = _
    rw [if_neg, if_pos hg, sgn_abs]
    rintro (a | ⟨a, b⟩)
    · omega
    · have := of_decide_eq_true a
      omega
theorem len60 {n : Nat} (h : n < 10 ^ 60) : (numL n).length ≤ 60 := numL_len (by decide) h
/-! the greatest common divisor, by steps -/
theorem gcd_step {x y : Nat} (h : 0 < y) : Nat.gcd y (x % y) = Nat.gcd x y := by
  rw [Nat.gcd_comm x y, Nat.gcd_rec y x, Nat.gcd_comm]
theorem lowest_gcd {t b : Nat} (h : 0 < b) : Nat.gcd (b / Nat.gcd t b) (t / Nat.gcd t b) = 1 := by
  have g0 : 0 < Nat.gcd t b := Nat.gcd_pos_of_pos_right _ h
  have h2 := Nat.gcd_div (Nat.gcd_dvd_right t b) (Nat.gcd_dvd_left t b)
  rw [Nat.gcd_comm b t, Nat.div_self g0] at h2
  exact h2
/-! figures, from the end -/
theorem fig_at {d : Nat} (h : d < 10) : atI (Str.ofString "0123456789").cps.toList (d : Int) = some (48 + d) := by
  have e : (Str.ofString "0123456789").cps.toList = [48, 49, 50, 51, 52, 53, 54, 55, 56, 57] := by decide +kernel
  rw [e]
  refine atI_nat ?_
  match d, h with
  | 0, _ => rfl
  | 1, _ => rfl
  | 2, _ => rfl
  | 3, _ => rfl
  | 4, _ => rfl
  | 5, _ => rfl
  | 6, _ => rfl
  | 7, _ => rfl
  | 8, _ => rfl
  | 9, _ => rfl
/-- texts by codes -/
theorem S_app (a b : List Nat) : S a ++ S b = S (a ++ b) := ext_tl (by rw [tl_append])
theorem S_len (a : List Nat) : (S a).length = a.length := by
  show a.toArray.size = a.length
  simp
theorem S_inj {a b : List Nat} (h : S a = S b) : a = b := by
  have := congrArg tl h
  exact this
theorem S_tl (z : Str) : z = S (tl z) := (mk_tl z).symm
end M

/-! orders: the mathematics -/
namespace M
open PySem L2 Z
def intOf : PyData → Int
  | .int i => i
  | _ => 0
/-- each number below m, once -/
def ordL (m : Nat) (ns : List Int) : Bool := decide (ns.length = m) && (List.range m).all fun j : Nat => decide ((j : Int) ∈ ns)
def rgL (m : Nat) : List Int := (List.range m).map fun j : Nat => (j : Int)
theorem rgL_nodup (m : Nat) : (rgL m).Nodup := by
  unfold rgL
  refine List.Pairwise.map _ (fun a b h e => h (Int.ofNat.inj e)) List.nodup_range
theorem rgL_sorted (m : Nat) : (rgL m).Pairwise (· ≤ ·) := by
  unfold rgL
  refine List.Pairwise.map _ (fun a b h => ?_) List.pairwise_lt_range
  omega
theorem sorted_eq : ∀ {l r : List Int}, l.Perm r → l.Pairwise (· ≤ ·) → r.Pairwise (· ≤ ·) → l = r
  | [], r, p, _, _ => (List.nil_perm.mp p).symm
  | a :: l, [], p, _, _ => absurd p.symm (by simp)
  | a :: l, b :: r, p, h1, h2 => by
    have ha : a ∈ b :: r := p.mem_iff.mp List.mem_cons_self
    have hb : b ∈ a :: l := p.mem_iff.mpr List.mem_cons_self
    have e : a = b := by
      rw [List.pairwise_cons] at h1 h2
      rcases List.mem_cons.mp ha with rfl | ha
      · rfl
      · rcases List.mem_cons.mp hb with rfl | hb
        · rfl
        · have := h1.1 b hb
          have := h2.1 a ha
          omega
    subst e
    rw [sorted_eq (List.Perm.cons_inv p) (List.pairwise_cons.mp h1).2 (List.pairwise_cons.mp h2).2]
theorem perm_sub : ∀ {r l : List Int}, r.Nodup → (∀ z ∈ r, z ∈ l) → l.length ≤ r.length → l.Perm r
  | [], l, _, _, h => by
    have : l = [] := List.length_eq_zero_iff.mp (by simpa using h)
    rw [this]
  | a :: r, l, hn, hs, h => by
    have ha : a ∈ l := hs a List.mem_cons_self
    obtain ⟨h1, h2⟩ := List.nodup_cons.mp hn
    have p := List.perm_cons_erase ha
    have hl := p.length_eq
    rw [List.length_cons] at hl h
    refine p.trans (List.Perm.cons a (perm_sub h2 (fun z hz => ?_) (by omega)))
    have hza : z ≠ a := fun e => h1 (e ▸ hz)
    exact (List.mem_erase_of_ne hza).mpr (hs z (List.mem_cons_of_mem _ hz))
theorem ord_perm {m : Nat} {ns : List Int} (h : ordL m ns = true) : ns.Perm (rgL m) := by
  obtain ⟨h1, h2⟩ := Bool.and_eq_true_iff.mp h
  have hl : ns.length = m := of_decide_eq_true h1
  refine perm_sub (rgL_nodup m) (fun z hz => ?_) ?_
  · unfold rgL at hz
    obtain ⟨j, hj, rfl⟩ := List.mem_map.mp hz
    exact of_decide_eq_true (List.all_eq_true.mp h2 j hj)
  · unfold rgL
    rw [List.length_map, List.length_range, hl]
    exact Nat.le_refl _
theorem perm_ord {m : Nat} {ns : List Int} (h : ns.Perm (rgL m)) : ordL m ns = true := by
  have hl := h.length_eq
  unfold rgL at hl
  rw [List.length_map, List.length_range] at hl
  unfold ordL
  rw [decide_eq_true hl, Bool.true_and, List.all_eq_true]
  intro j hj
  refine decide_eq_true (h.mem_iff.mpr ?_)
  unfold rgL
  exact List.mem_map.mpr ⟨j, hj, rfl⟩
/-- what sorted tells -/
theorem ord_sorted {m : Nat} {ns ns' : List Int} (p : ns'.Perm ns) (s : ns'.Pairwise (· ≤ ·)) : decide (ns' = rgL m) = ordL m ns := by
  rw [Bool.eq_iff_iff, decide_eq_true_iff]
  constructor
  · intro e
    exact perm_ord ((e ▸ p.symm) : ns.Perm (rgL m))
  · intro h
    exact sorted_eq (p.trans (ord_perm h)) s (rgL_sorted m)
theorem rgV_eq (m : Nat) : rgV 0 (m : Int) = (rgL m).map V.int := by
  unfold rgV rgL
  rw [List.map_map]
  have e : ((m : Int) - 0).toNat = m := by omega
  rw [e]
  refine List.map_congr_left fun j _ => ?_
  show V.int (0 + (j : Int)) = V.int (j : Int)
  rw [Int.zero_add]
end M

/-! orders as lists of Nat; things put by an order -/
namespace M
open PySem L2 Z
def ofN (js : List Nat) : List Int := js.map fun j : Nat => (j : Int)
def vsN (js : List Nat) : List V := js.map fun j : Nat => V.int (j : Int)
theorem vsN_ofN (js : List Nat) : (ofN js).map V.int = vsN js := by
  unfold ofN vsN
  rw [List.map_map]
  rfl
theorem ord_nat {m : Nat} {ns : List Int} (h : ordL m ns = true) : ∃ js : List Nat, ns = ofN js ∧ js.Perm (List.range m) := by
  have p := ord_perm h
  refine ⟨ns.map Int.toNat, ?_, ?_⟩
  · unfold ofN
    rw [List.map_map]
    refine (List.map_id ns).symm.trans (List.map_congr_left fun z hz => ?_)
    have hz2 := p.mem_iff.mp hz
    unfold rgL at hz2
    obtain ⟨j, _, rfl⟩ := List.mem_map.mp hz2
    show (j : Int) = ((j : Int).toNat : Int)
    omega
  · have q := p.map Int.toNat
    unfold rgL at q
    rw [List.map_map] at q
    have e : (Int.toNat ∘ fun j : Nat => (j : Int)) = id := by
      funext j
      simp
    rw [e, List.map_id] at q
    exact q
theorem nat_ord {m : Nat} {js : List Nat} (h : js.Perm (List.range m)) : ordL m (ofN js) = true := perm_ord (h.map _)
theorem perm_sub' {α : Type} [DecidableEq α] : ∀ {r l : List α}, r.Nodup → (∀ z ∈ r, z ∈ l) → l.length ≤ r.length → l.Perm r
  | [], l, _, _, h => by
    have : l = [] := List.length_eq_zero_iff.mp (by simpa using h)
    rw [this]
  | a :: r, l, hn, hs, h => by
    have ha : a ∈ l := hs a List.mem_cons_self
    obtain ⟨h1, h2⟩ := List.nodup_cons.mp hn
    have p := List.perm_cons_erase ha
    have hl := p.length_eq
    rw [List.length_cons] at hl h
    refine p.trans (List.Perm.cons a (perm_sub' h2 (fun z hz => ?_) (by omega)))
    have hza : z ≠ a := fun e => h1 (e ▸ hz)
    exact (List.mem_erase_of_ne hza).mpr (hs z (List.mem_cons_of_mem _ hz))
section
variable {m : Nat} {js : List Nat} (p : js.Perm (List.range m))
include p
theorem pr_len : js.length = m := by rw [p.length_eq, List.length_range]
theorem pr_nd : js.Nodup := p.nodup_iff.mpr List.nodup_range
theorem pr_lt {j : Nat} (h : j ∈ js) : j < m := List.mem_range.mp (p.mem_iff.mp h)
theorem pr_mem {j : Nat} (h : j < m) : j ∈ js := p.mem_iff.mpr (List.mem_range.mpr h)
end
/-- i things put -/
def putN (xs : List V) (js : List Nat) : Nat → List V
  | 0 => xs
  | i + 1 => (putN xs js i).set (js.getD i 0) (xs.getD i .non)
theorem putN_len (xs : List V) (js : List Nat) : ∀ i, (putN xs js i).length = xs.length
  | 0 => rfl
  | i + 1 => by rw [putN, List.length_set, putN_len xs js i]
theorem putN_get {xs : List V} {js : List Nat} (nd : js.Nodup) (hb : ∀ j ∈ js, j < xs.length) (hl : js.length ≤ xs.length) : ∀ i, i ≤ js.length → ∀ k, (hk : k < i) → (h2 : k < js.length) → (putN xs js i)[js[k]]? = xs[k]?
  | 0, _, k, hk, _ => absurd hk (Nat.not_lt_zero _)
  | i + 1, hi, k, hk, h2 => by
    have e : js.getD i 0 = js[i] := by
      rw [List.getD_eq_getElem?_getD, List.getElem?_eq_getElem (by omega)]
      rfl
    rw [putN, e]
    by_cases hki : k = i
    · subst hki
      have h3 := hb js[k] (List.getElem_mem h2)
      rw [List.getElem?_set_self (by rw [putN_len]; exact h3), List.getD_eq_getElem?_getD, List.getElem?_eq_getElem (by omega)]
      rfl
    · have hne : js[i] ≠ js[k] := fun e => hki (nd_inj nd (by omega) h2 e).symm
      rw [List.getElem?_set_ne hne]
      exact putN_get nd hb hl i (by omega) k (by omega) h2
/-- all put -/
def putJ (xs : List V) (js : List Nat) : List V := putN xs js js.length
theorem putJ_len (xs : List V) (js : List Nat) : (putJ xs js).length = xs.length := putN_len xs js _
theorem putJ_get {xs : List V} {js : List Nat} (p : js.Perm (List.range xs.length)) (k : Nat) (hk : k < js.length) : (putJ xs js)[js[k]]? = xs[k]? := putN_get (pr_nd p) (fun j hj => pr_lt p hj) (by rw [pr_len p]; exact Nat.le_refl _) _ (Nat.le_refl _) k hk hk
theorem put_back {xs : List V} {js : List Nat} (p : js.Perm (List.range xs.length)) : (js.map fun j => (putJ xs js).getD j .non) = xs := by
  refine List.ext_getElem? fun i => ?_
  rw [List.getElem?_map]
  have hl := pr_len p
  by_cases hi : i < js.length
  · rw [List.getElem?_eq_getElem hi, Option.map_some, List.getD_eq_getElem?_getD, putJ_get p i hi, List.getElem?_eq_getElem (by omega)]
    rfl
  · rw [List.getElem?_eq_none (by omega), List.getElem?_eq_none (by omega)]
    rfl
/-- the order's other way about -/
def invJ (js : List Nat) : List Nat := (List.range js.length).map fun q => js.idxOf q
theorem invJ_len (js : List Nat) : (invJ js).length = js.length := by
  unfold invJ
  rw [List.length_map, List.length_range]
section
variable {m : Nat} {js : List Nat} (p : js.Perm (List.range m))
include p
theorem inv_at {q : Nat} (h : q < m) : ∃ h1 : js.idxOf q < js.length, js[js.idxOf q] = q := ⟨List.idxOf_lt_length_of_mem (pr_mem p h), List.getElem_idxOf (List.idxOf_lt_length_of_mem (pr_mem p h))⟩
theorem inv_perm : (invJ js).Perm (List.range m) := by
  have hl := pr_len p
  refine (perm_sub' (r := invJ js) (l := List.range m) ?_ ?_ ?_).symm
  · unfold invJ
    rw [hl]
    refine List.Pairwise.map (R := fun a b => a ∈ List.range m ∧ b ∈ List.range m ∧ a ≠ b) _ (fun a b h e => ?_) ?_
    · obtain ⟨ha, hb, hn⟩ := h
      obtain ⟨a1, a2⟩ := inv_at p (List.mem_range.mp ha)
      obtain ⟨b1, b2⟩ := inv_at p (List.mem_range.mp hb)
      apply hn
      rw [← a2, ← b2]
      have e2 : js.idxOf a = js.idxOf b := e
      exact getElem_congr_idx e2
    · refine List.Pairwise.imp_of_mem (R := (· ≠ ·)) (fun ha hb h => ⟨ha, hb, h⟩) ?_
      exact List.nodup_range
  · intro z hz
    unfold invJ at hz
    obtain ⟨q, hq, rfl⟩ := List.mem_map.mp hz
    rw [List.mem_range] at hq ⊢
    obtain ⟨h1, _⟩ := inv_at p (q := q) (by omega)
    omega
  · rw [invJ_len, List.length_range, hl]
    exact Nat.le_refl _
end
theorem put_inv {xs : List V} {js : List Nat} (p : js.Perm (List.range xs.length)) : putJ (putJ xs js) (invJ js) = xs := by
  have hl := pr_len p
  have pi : (invJ js).Perm (List.range (putJ xs js).length) := by
    rw [putJ_len]
    exact inv_perm p
  refine List.ext_getElem? fun i => ?_
  by_cases hi : i < xs.length
  · -- i = inv[k] with k = js[i]
    have hi2 : i < js.length := by omega
    have hk : js[i] < xs.length := pr_lt p (List.getElem_mem hi2)
    have hk2 : js[i] < (invJ js).length := by rw [invJ_len]; omega
    have e : (invJ js)[js[i]] = i := by
      have : (invJ js)[js[i]] = js.idxOf js[i] := by
        have e : (invJ js)[js[i]]? = some (js.idxOf js[i]) := by
          unfold invJ
          rw [List.getElem?_map, List.getElem?_range (by omega)]
          rfl
        rw [List.getElem?_eq_getElem hk2] at e
        exact Option.some.inj e
      rw [this]
      obtain ⟨h1, h2⟩ := inv_at p hk
      exact nd_inj (pr_nd p) h1 hi2 h2
    have g := putJ_get pi js[i] hk2
    rw [e, putJ_get p i hi2] at g
    exact g
  · rw [List.getElem?_eq_none (by rw [putJ_len, putJ_len]; omega), List.getElem?_eq_none (by omega)]
end M

/-! Zh: dict(pairs); join of nothing between; the place of a text. -/
namespace Z
open PySem PySem.Spec PyProof.Rows L2
def cDictP (K : PySem.W.Frag) : List V → Hp → VK → Prop := fun xs H Q => ∃ (a : Addr) (ps : List Addr) (kvs : List (Key × V)), xs = [.ref a] ∧ SqL K H a (ps.map V.ref) ∧ Paired (fun p kv => SqT K H p [kV kv.1, kv.2]) ps kvs ∧ ∀ p, H p = none → Q (.ref p) (upd H p (.dK (mergeK [] kvs)))
section
variable {X : Cx}
theorem k_dictP (K : PySem.W.Frag) (hc : X.calm = true) (hK : X.K = K := by rfl) : CallR X (.type "dict") (cDictP K) := hK ▸ call_dictP hc
end
theorem merge_val : ∀ (kvs acc : List (Key × V)) (k : Key), (kvs.map (·.1)).Nodup → valV (mergeK acc kvs) k = match valV kvs k with | some v => some v | none => valV acc k
  | [], acc, k, _ => rfl
  | p :: r, acc, k, h => by
    rw [List.map_cons, List.nodup_cons] at h
    have e : mergeK acc (p :: r) = mergeK (putK acc p.1 p.2) r := rfl
    rw [e, merge_val r _ k h.2, valV_put]
    by_cases hk : k = p.1
    · subst hk
      have hn : valV r p.1 = none := by
        unfold valV
        rw [Option.map_eq_none_iff, List.find?_eq_none]
        intro x hx hx2
        have : x.1 = p.1 := of_decide_eq_true hx2
        exact h.1 (this ▸ List.mem_map.mpr ⟨x, hx, rfl⟩)
      rw [hn, valV_pos rfl]
      simp
    · rw [if_neg hk]
      have hp : valV (p :: r) k = valV r k := by
        unfold valV
        rw [List.find?_cons, decide_eq_false (fun z => hk z.symm)]
      rw [hp]
theorem merge_at {kvs : List (Key × V)} (h : (kvs.map (·.1)).Nodup) {i : Nat} (hi : i < kvs.length) : valV (mergeK [] kvs) kvs[i].1 = some kvs[i].2 := by
  rw [merge_val kvs [] _ h]
  have e : valV kvs kvs[i].1 = some kvs[i].2 := by
    unfold valV
    have : (kvs.find? fun kv => decide (kv.1 = kvs[i].1)) = some kvs[i] := by
      rw [List.find?_eq_some_iff_getElem]
      refine ⟨decide_eq_true rfl, i, hi, rfl, fun j hj => ?_⟩
      have n : kvs[j].1 ≠ kvs[i].1 := fun q => by
        have := nd_inj h (i := j) (j := i) (by rw [List.length_map]; omega) (by rw [List.length_map]; exact hi) (by rw [List.getElem_map, List.getElem_map]; exact q)
        omega
      rw [decide_eq_false n]
      rfl
    rw [this]
    rfl
  rw [e]
section
variable {K : PySem.W.Frag} {H : Hp} {Q : VK}
theorem r_dictP {a : Addr} {ps : List Addr} {kvs : List (Key × V)} (h : SqL K H a (ps.map V.ref)) (hp : Paired (fun p kv => SqT K H p [kV kv.1, kv.2]) ps kvs) (q : ∀ p H', H p = none → Same H H' → H' p = some (.dK (mergeK [] kvs)) → Q (.ref p) H') : cDictP K [.ref a] H Q :=
  ⟨a, ps, kvs, rfl, h, hp, fun p hp => q p _ hp (Same.new hp) upd_same⟩
theorem r_indexS {a : Addr} {zs : List Str} {j : Nat} {z : Str} (h : SqL K H a (zs.map V.str)) (nd : zs.Nodup) (hj : j < zs.length) (e : zs[j] = z) (q : Q (.int (j : Nat)) H) : rIndex K (.ref a) [.str z] H Q := by
  subst e
  refine ⟨a, _, _, j, .str zs[j], rfl, rfl, h, rfl, ?_, ?_, ?_, ?_, q⟩
  · rw [List.all_map]
    exact List.all_eq_true.mpr fun _ _ => rfl
  · rw [List.getElem?_map, List.getElem?_eq_getElem hj]
    rfl
  · simp [eqV]
  · intro m z' hm hz
    rw [List.getElem?_map, List.getElem?_eq_getElem (by omega)] at hz
    cases hz
    have : zs[m] ≠ zs[j] := fun e => by
      have := nd_inj nd (by omega) hj e
      omega
    simpa [eqV] using this
theorem joinL_one : ∀ l : List Nat, TL.joinL [] (l.map fun c => [c]) = l
  | [] => rfl
  | [c] => rfl
  | c :: d :: r => by
    have := joinL_one (d :: r)
    show [c] ++ ([] ++ TL.joinL [] ((d :: r).map fun c => [c])) = _
    rw [this]
    rfl
/-- ''.join of letters -/
theorem r_join1 {p : Addr} {l : List Nat} (h : SqL K H p ((l.map fun c => SX.S [c]).map V.str)) (hl : l.length ≤ 1000000) (q : Q (.str (SX.S l)) H) : mJoin K (.str (SX.S [])) [.ref p] H Q := by
  refine ⟨SX.S [], p, l.map fun c => SX.S [c], rfl, rfl, .inl h, ?_, ?_⟩
  · rw [List.map_map]
    have e : (l.map (Str.length ∘ fun c => SX.S [c])).sum = l.length := by
      clear h hl q
      induction l with
      | nil => rfl
      | cons c l ih =>
        rw [List.map_cons, List.sum_cons, ih, List.length_cons]
        show (SX.S [c]).length + l.length = _
        have : (SX.S [c]).length = 1 := rfl
        omega
    have e0 : (SX.S []).length = 0 := rfl
    rw [e, e0, Nat.mul_zero]
    omega
  · have e : Txt.join (SX.S []) (l.map fun c => SX.S [c]) = SX.S l := by
      have := SX.join_S [] (l.map fun c => [c])
      rw [List.map_map] at this
      rw [show (l.map fun c => SX.S [c]) = l.map (SX.S ∘ fun c => [c]) from rfl, this, joinL_one]
    rw [e]
    exact q
end
end Z

section
end
open L2 (Same Dp DpAll)
local macro_rules | `(tactic| walk_at "szs") => `(tactic| first | (simp only [List.length_cons, List.length_nil, List.length_append, List.length_map, List.length_take, List.length_drop, List.length_set, Z.len_empty, Z.len_app] <;> omega) | omega | (simp [Z.len_app, M.S_len, PyProof.Rows.ofString_length] <;> omega))
local macro_rules | `(tactic| walk_at "fn") => `(tactic| first | assumption | (refine Z.fr (by assumption) ?_; walk_at "sm"))
local macro_rules | `(tactic| walk_at "sm") => `(tactic| first
  | assumption
  | exact Same.refl _
  | (refine Z.Same.tr (by assumption) ?_; walk_at "sm")
  | (refine Z.Same.but (by assumption) ?_ ?_; (walk_at "fn"); walk_at "sm"))
local macro_rules | `(tactic| walk_at "bt") => `(tactic| first
  | assumption
  | (refine Z.But.tr (by assumption) ?_; walk_at "bt")
  | (refine Z.But.but (by assumption) ?_; walk_at "bt")
  | (refine Z.But.but2 (by assumption) ?_ ?_; (walk_at "fn"); walk_at "bt")
  | (refine Z.But.of ?_; walk_at "sm"))
local macro_rules | `(tactic| walk_at "ne") => `(tactic| first
  | assumption
  | (refine Ne.symm ?_; assumption)
  | (refine Z.ne1 (o := ?o) (by assumption) ?h; (case h => walk_at "lk"))
  | (refine Ne.symm (Z.ne1 (o := ?o) (by assumption) ?h); (case h => walk_at "lk")))
local macro_rules | `(tactic| walk_at "lk") => `(tactic| first
  | assumption
  | with_reducible exact Dp.int _
  | with_reducible exact Dp.str _
  | with_reducible exact Dp.bl _
  | with_reducible exact Dp.non
  | with_reducible exact DpAll.nil
  | ((with_reducible refine Z.up (by assumption) ?_); walk_at "lk")
  | ((with_reducible refine Z.upB (by assumption) ?_ ?_); (walk_at "ne"); walk_at "lk")
  | ((with_reducible refine Z.sqL ?_); walk_at "lk")
  | ((with_reducible refine Z.sqT ?_); walk_at "lk")
  | ((with_reducible refine Z.upL (by assumption) ?_); walk_at "lk")
  | ((with_reducible refine Z.upT (by assumption) ?_); walk_at "lk")
  | ((with_reducible refine Z.upLB (by assumption) ?_ ?_); (walk_at "ne"); walk_at "lk")
  | ((with_reducible refine Z.upTB (by assumption) ?_ ?_); (walk_at "ne"); walk_at "lk")
  | ((with_reducible refine Z.Dq.up (by assumption) ?_); walk_at "lk")
  | ((with_reducible refine Z.DqAll.up (by assumption) ?_); walk_at "lk")
  | ((with_reducible refine Z.dpUp (by assumption) ?_); walk_at "lk")
  | ((with_reducible refine Z.dpsUp (by assumption) ?_); walk_at "lk")
  | ((with_reducible refine DpAll.cons ?_ ?_); (walk_at "lk"); walk_at "lk")
  | ((with_reducible refine Dp.tup (xs := ?xs) ?h1 ?h2); (case h1 => walk_at "lk"); (case h2 => walk_at "lk"))
  | ((with_reducible refine Dp.lst (xs := ?xs) ?h1 ?h2); (case h1 => walk_at "lk"); (case h2 => walk_at "lk")))
local macro_rules | `(tactic| walk_at "sd") => `(tactic| first
  | rfl
  | assumption
  | omega
  | decide
  | decide +kernel
  | exact Z.szl (by walk_at "szs")
  | exact Z.szlt (by walk_at "szs")
  | exact Or.inl ⟨by omega, by omega⟩
  | exact Or.inl (Or.inl ⟨by omega, by omega⟩)
  | exact Or.inl (Or.inr ⟨by omega, by omega⟩)
  | exact ⟨by omega, by omega⟩
  | exact ⟨by omega, by omega, by omega⟩)
local macro_rules | `(tactic| walk_at "rg") => `(tactic| first
  | exact ⟨by omega, by omega⟩
  | exact ⟨by omega, by omega, by omega, by omega⟩
  | decide)
local macro_rules | `(tactic| walk_at "isi") => `(tactic| first
  | with_reducible refine Z.q_int_int ?_
  | with_reducible refine Z.q_int_bool ?_
  | with_reducible refine Z.q_int_str ?_
  | with_reducible refine Z.q_int_list ?_
  | with_reducible refine Z.q_int_tuple ?_
  | with_reducible refine Z.q_int_dict ?_
  | with_reducible refine Z.q_bool_int ?_
  | with_reducible refine Z.q_bool_bool ?_
  | with_reducible refine Z.q_bool_str ?_
  | with_reducible refine Z.q_bool_list ?_
  | with_reducible refine Z.q_bool_tuple ?_
  | with_reducible refine Z.q_bool_dict ?_
  | with_reducible refine Z.q_str_int ?_
  | with_reducible refine Z.q_str_bool ?_
  | with_reducible refine Z.q_str_str ?_
  | with_reducible refine Z.q_str_list ?_
  | with_reducible refine Z.q_str_tuple ?_
  | with_reducible refine Z.q_str_dict ?_
  | with_reducible refine Z.q_NoneType_int ?_
  | with_reducible refine Z.q_NoneType_bool ?_
  | with_reducible refine Z.q_NoneType_str ?_
  | with_reducible refine Z.q_NoneType_list ?_
  | with_reducible refine Z.q_NoneType_tuple ?_
  | with_reducible refine Z.q_NoneType_dict ?_
  | ((with_reducible refine Z.q_list_int (xs := ?xs) ?h ?_); (case h => walk_at "lk"))
  | ((with_reducible refine Z.q_list_bool (xs := ?xs) ?h ?_); (case h => walk_at "lk"))
  | ((with_reducible refine Z.q_list_str (xs := ?xs) ?h ?_); (case h => walk_at "lk"))
  | ((with_reducible refine Z.q_list_list (xs := ?xs) ?h ?_); (case h => walk_at "lk"))
  | ((with_reducible refine Z.q_list_tuple (xs := ?xs) ?h ?_); (case h => walk_at "lk"))
  | ((with_reducible refine Z.q_list_dict (xs := ?xs) ?h ?_); (case h => walk_at "lk"))
  | ((with_reducible refine Z.q_tuple_int (xs := ?xs) ?h ?_); (case h => walk_at "lk"))
  | ((with_reducible refine Z.q_tuple_bool (xs := ?xs) ?h ?_); (case h => walk_at "lk"))
  | ((with_reducible refine Z.q_tuple_str (xs := ?xs) ?h ?_); (case h => walk_at "lk"))
  | ((with_reducible refine Z.q_tuple_list (xs := ?xs) ?h ?_); (case h => walk_at "lk"))
  | ((with_reducible refine Z.q_tuple_tuple (xs := ?xs) ?h ?_); (case h => walk_at "lk"))
  | ((with_reducible refine Z.q_tuple_dict (xs := ?xs) ?h ?_); (case h => walk_at "lk"))
  | ((with_reducible refine Z.q_dict_int (xs := ?xs) ?h ?_); (case h => walk_at "lk"))
  | ((with_reducible refine Z.q_dict_bool (xs := ?xs) ?h ?_); (case h => walk_at "lk"))
  | ((with_reducible refine Z.q_dict_str (xs := ?xs) ?h ?_); (case h => walk_at "lk"))
  | ((with_reducible refine Z.q_dict_list (xs := ?xs) ?h ?_); (case h => walk_at "lk"))
  | ((with_reducible refine Z.q_dict_tuple (xs := ?xs) ?h ?_); (case h => walk_at "lk"))
  | ((with_reducible refine Z.q_dict_dict (xs := ?xs) ?h ?_); (case h => walk_at "lk"))
  | ((with_reducible refine Z.r_isQ_int (d := ?d) ?h ?_); (case h => walk_at "lk"))
  | ((with_reducible refine Z.r_isQ_bool (d := ?d) ?h ?_); (case h => walk_at "lk"))
  | ((with_reducible refine Z.r_isQ_str (d := ?d) ?h ?_); (case h => walk_at "lk"))
  | ((with_reducible refine Z.r_isQ_list (d := ?d) ?h ?_); (case h => walk_at "lk"))
  | ((with_reducible refine Z.r_isQ_tuple (d := ?d) ?h ?_); (case h => walk_at "lk"))
  | ((with_reducible refine Z.r_isQ_dict (d := ?d) ?h ?_); (case h => walk_at "lk")))
local macro_rules | `(tactic| walk_at "tr") => `(tactic| (set_option pp.maxSteps 1500 in trace_state))
local macro_rules | `(tactic| walk_at "st") => `(tactic| try dsimp only [cxOf, Cx.wish])
local macro_rules | `(tactic| walk_at "rd1") => `(tactic| first
  | with_reducible refine Z.v0 ?_
  | with_reducible refine Z.v1 ?_
  | with_reducible refine Z.v2 ?_
  | with_reducible refine Z.v3 ?_
  | with_reducible refine Z.v4 ?_
  | with_reducible refine Z.v5 ?_
  | with_reducible refine Z.v6 ?_
  | with_reducible refine Z.v7 ?_
  | with_reducible refine Z.v8 ?_
  | with_reducible refine Z.v9 ?_
  | with_reducible refine Z.v10 ?_
  | with_reducible refine Z.v11 ?_
  | with_reducible refine Z.v12 ?_
  | with_reducible refine Z.v13 ?_
  | with_reducible refine Z.v14 ?_
  | with_reducible refine Z.r_c ?_
  | with_reducible refine Z.r_op ?_
  | with_reducible refine Z.r_seq ?_
  | with_reducible refine Z.r_asg ?_
  | with_reducible refine Z.n0 ?_
  | with_reducible refine Z.n1 ?_
  | with_reducible refine Z.n2 ?_
  | with_reducible refine Z.n3 ?_
  | with_reducible refine Z.n4 ?_
  | with_reducible refine Z.n5 ?_
  | with_reducible refine Z.n6 ?_
  | with_reducible refine Z.n7 ?_
  | with_reducible refine Z.n8 ?_
  | with_reducible refine Z.n9 ?_
  | with_reducible refine Z.n10 ?_
  | with_reducible refine Z.n11 ?_
  | with_reducible refine Z.n12 ?_
  | with_reducible refine Z.n13 ?_
  | with_reducible refine Z.n14 ?_
  | with_reducible refine Z.r_cons ?_
  | with_reducible refine Z.r_nil ?_
  | with_reducible refine Z.r_CB ?_
  | with_reducible refine Z.r_call ?_
  | with_reducible refine Z.r_ret ?_
  | with_reducible refine Z.r_ifS ?_
  | with_reducible refine Z.r_test ?_
  | with_reducible refine Z.r_tB ?_
  | with_reducible refine Z.r_exB ?_
  | with_reducible refine Z.r_exI ?_
  | with_reducible refine Z.r_T ?_
  | with_reducible refine Z.r_F ?_
  | with_reducible refine Z.r_nT ?_
  | with_reducible refine Z.r_nF ?_
  | with_reducible refine Z.r_addI ?_
  | with_reducible refine Z.r_sub ?_
  | ((with_reducible refine Z.r_mulI ?_ ?h); (case h => walk_at "sd"))
  | ((with_reducible refine Z.r_mod ?_ ?h); (case h => walk_at "sd"))
  | ((with_reducible refine Z.r_div ?_ ?h); (case h => walk_at "sd"))
  | with_reducible refine Z.p10_6 ?_
  | with_reducible refine Z.p10_8 ?_
  | with_reducible refine Z.p10_9 ?_
  | with_reducible refine Z.p10_18 ?_
  | ((with_reducible refine Z.r_pow ?_ ?h); (case h => walk_at "sd"))
  | ((with_reducible refine Z.r_addS ?_ ?h); (case h => walk_at "sd"))
  | ((with_reducible refine Z.r_addL (xs := ?xs) (ys := ?ys) ?h1 ?h2 ?_ ?h); (case h1 => walk_at "lk"); (case h2 => walk_at "lk"); (case h => walk_at "sd"))
  | with_reducible refine Z.r_eqI ?_
  | with_reducible refine Z.r_neI ?_
  | with_reducible refine Z.r_eqS ?_
  | with_reducible refine Z.r_neS ?_
  | ((with_reducible refine Z.r_eq ?_ ?h); (case h => rfl))
  | ((with_reducible refine Z.r_ne ?_ ?h); (case h => rfl))
  | with_reducible refine Z.r_lt ?_
  | with_reducible refine Z.r_le ?_
  | with_reducible refine Z.r_gt ?_
  | with_reducible refine Z.r_ge ?_
  | with_reducible refine Z.r_isN ?_
  | ((with_reducible refine Z.r_strN ?_ ?h); (case h => walk_at "sd"))
  | with_reducible refine Z.r_din ?_
  | with_reducible refine Z.r_dnotin ?_
  | with_reducible refine Z.r_dput ?_
  | with_reducible refine Z.r_dgetS ?_
  | ((with_reducible refine Z.r_dgs (kvs := ?kvs) ?h ?_); (case h => walk_at "lk"))
  | ((with_reducible refine Z.r_dps (kvs := ?kvs) ?h ?h2 ?_); (case h => walk_at "lk"); (case h2 => walk_at "sd"))
  | with_reducible refine Z.r_lrg0 ?_
  | ((with_reducible refine Z.r_sortI (ns := ?ns) ?h ?_); (case h => walk_at "lk"))
  | with_reducible refine Z.r_veI ?_
  | with_reducible refine Z.r_dnewK ?_
  | with_reducible refine Z.r_xv0 ?_
  | with_reducible refine Z.r_xf0 ?_
  | ((with_reducible refine Z.r_mulS ?_ ?h); (case h => exact ⟨by decide +kernel, fun _ _ => by decide +kernel, fun _ _ => by decide +kernel⟩))
  | with_reducible refine Z.r_ost ?_
  | with_reducible refine Z.r_raiO ?_
  | with_reducible refine Z.r_raiN ?_
  | with_reducible refine Z.r_ce ?_
  | with_reducible refine Z.r_fmtN ?_
  | with_reducible refine Z.r_isI ?_
  | with_reducible refine Z.r_isS ?_
  | with_reducible refine Z.r_isR ?_
  | with_reducible refine Z.r_isB ?_
  | with_reducible refine Z.r_notN ?_
  | with_reducible refine Z.r_notI ?_
  | with_reducible refine Z.r_notS ?_
  | with_reducible refine Z.r_notR ?_
  | with_reducible refine Z.r_inT ?_
  | with_reducible refine Z.r_notInT ?_
  | ((with_reducible refine Z.r_inL (xs := ?xs) ?h1 ?_ ?h2 ?h3); (case h1 => walk_at "lk"); (case h2 => rfl); (case h3 => first | rfl | assumption))
  | ((with_reducible refine Z.r_notInL (xs := ?xs) ?h1 ?_ ?h2 ?h3); (case h1 => walk_at "lk"); (case h2 => rfl); (case h3 => first | rfl | assumption))
  | ((with_reducible refine Z.r_ixL (xs := ?xs) (v := ?v) ?h1 ?h2 ?_); (case h1 => walk_at "lk"); (case h2 => first | rfl | assumption))
  | ((with_reducible refine Z.r_ixT (xs := ?xs) (v := ?v) ?h1 ?h2 ?_); (case h1 => walk_at "lk"); (case h2 => first | rfl | assumption))
  | ((with_reducible refine Z.r_lenL (xs := ?xs) ?h1 ?_); (case h1 => walk_at "lk"))
  | ((with_reducible refine Z.r_lenT (xs := ?xs) ?h1 ?_); (case h1 => walk_at "lk"))
  | ((with_reducible refine Z.r_lenS ?_ ?h1); (case h1 => walk_at "sd"))
  | with_reducible refine Z.r_lenSetS ?_
  | with_reducible refine Z.r_intB ?_
  | with_reducible refine Z.r_revL ?_
  | ((with_reducible refine Z.r_revW (xs := ?xs) ?h ?_); (case h => walk_at "lk"))
  | with_reducible refine Z.r_abs ?_
  | with_reducible refine Z.r_max ?_
  | with_reducible refine Z.r_min ?_
  | ((with_reducible refine Z.r_strI ?_ ?h1); (case h1 => walk_at "sd"))
  | ((with_reducible refine Z.r_listL (xs := ?xs) ?h1 ?_); (case h1 => walk_at "lk"))
  | ((with_reducible refine Z.r_listT (xs := ?xs) ?h1 ?_); (case h1 => walk_at "lk"))
  | ((with_reducible refine Z.r_isiHd ?_); walk_at "isi")
  | with_reducible refine Z.r_tup ?_
  | with_reducible refine Z.r_lst ?_
  | ((with_reducible refine Z.r_newT ?_ ?h); (case h => walk_at "sd"))
  | ((with_reducible refine Z.r_newL ?_ ?h); (case h => walk_at "sd"))
  | with_reducible refine Z.r_sl ?_
  | with_reducible refine Z.r_part ?_
  | with_reducible refine Z.r_noPart ?_
  | ((with_reducible refine Z.r_slL (xs := ?xs) ?h1 ?_); (case h1 => walk_at "lk"))
  | ((with_reducible refine Z.r_slS ?_ ?h1); (case h1 => walk_at "sd"))
  | with_reducible refine Z.r_un ?_
  | with_reducible refine Z.r_U ?_
  | with_reducible refine Z.r_BM ?_
  | with_reducible refine Z.r_BM0 ?_
  | with_reducible refine Z.r_tyS ?_
  | ((with_reducible refine Z.r_tyL (xs := ?xs) ?h ?_); (case h => walk_at "lk"))
  | ((with_reducible refine Z.r_appendQ (xs := ?xs) ?h ?_ ?h2); (case h => walk_at "lk"); (case h2 => walk_at "sd"))
  | ((with_reducible refine Z.r_split ?_ ?h ?h2); (case h => first | rfl | decide +kernel); (case h2 => walk_at "sd"))
  | with_reducible refine Z.r_subTg ?_
  | ((with_reducible refine Z.r_setL (xs := ?xs) (n := ?n) ?h ?h2 ?_); (case h => walk_at "lk"); (case h2 => first | rfl | assumption))
  | with_reducible refine Z.r_fmt ?_
  | ((with_reducible refine Z.r_fmtI ?_ ?h); (case h => walk_at "sd"))
  | ((with_reducible refine Z.r_fmtS ?_ ?h); (case h => walk_at "sd"))
  | with_reducible refine Z.r_js0 ?_
  | with_reducible refine Z.r_js ?_
  | ((with_reducible refine Z.r_jsS ?_ ?h); (case h => walk_at "sd"))
  | with_reducible refine Z.r_and ?_
  | with_reducible refine Z.r_or ?_
  | with_reducible refine Z.r_not ?_
  | with_reducible refine Z.r_andV ?_
  | with_reducible refine Z.r_orV ?_
  | with_reducible refine Z.r_notV ?_
  | with_reducible refine Z.r_chain ?_
  | with_reducible refine Z.r_ifE ?_
  | with_reducible refine Z.r_next ?_
  | with_reducible refine Z.r_par ?_
  | with_reducible refine Z.r_par2 ?_
  | with_reducible refine Z.r_drop ?_
  | with_reducible refine Z.r_retN ?_
  | with_reducible refine Z.r_brk ?_
  | with_reducible refine Z.r_cnt ?_
  | ((with_reducible refine Z.r_tg (xs := ?xs) ?h ?_ ?h2); (case h => walk_at "lk"); (case h2 => rfl))
  | with_reducible refine Z.r_gcons ?_
  | with_reducible refine Z.r_gnil ?_
  | ((with_reducible refine Z.r_aug (i := ?i) ?h ?_); (case h => exact rfl))
  | with_reducible refine Z.r_for ?_
  | with_reducible refine Z.r_lc ?_
  | with_reducible refine Z.i_L ?_
  | with_reducible refine Z.i_T ?_
  | with_reducible refine Z.i_S ?_
  | with_reducible refine Z.i_R1 ?_
  | with_reducible refine Z.i_R2 ?_
  | with_reducible refine Z.i_E ?_
  | with_reducible refine Z.i_Z ?_
  | ((with_reducible refine Z.s_L (xs := ?xs) ?h1 ?_); (case h1 => walk_at "lk"))
  | ((with_reducible refine Z.s_T (xs := ?xs) ?h1 ?_); (case h1 => walk_at "lk"))
  | with_reducible refine Z.s_S ?_
  | ((with_reducible refine Z.s_R1 ?_ ?h1); (case h1 => walk_at "rg"))
  | ((with_reducible refine Z.s_R2 ?_ ?h1); (case h1 => walk_at "rg"))
  | ((with_reducible refine Z.s_E (xs := ?xs) ?h1 ?_); (case h1 => walk_at "lk"))
  | ((with_reducible refine Z.s_Z (xs := ?xs) (ys := ?ys) ?h1 ?h2 ?_); (case h1 => walk_at "lk"); (case h2 => walk_at "lk"))
  | with_reducible refine Z.r_yes ?_
  | ((with_reducible refine Z.r_wipe ?h ?_); (case h => rfl)))
local macro_rules | `(tactic| walk_at "rd") => `(tactic| repeat (walk_at "rd1"))
local macro_rules | `(tactic| walk_at "mn") => `(tactic| repeat (first
  | exact Z.m_var | exact Z.m_c | exact Z.m_gt | exact Z.m_lt | exact Z.m_ge | exact Z.m_le | exact Z.m_eqP | exact Z.m_neP
  | refine Z.m_test ?_ | refine Z.m_op ?_ ?_ ?_ | refine Z.m_or ?_ ?_ | refine Z.m_and ?_ ?_))

namespace My
open PySem PySem.Spec PyProof.Rows L2 Z M SX TL
def top (i : Nat) : Stmt := PySem.Challenge.pw_dearsigns_k57_letters.main.body.getD i (.Pass ⟨0, 0, 0, 0⟩)
abbrev s_is_whole : Stmt := top 17
abbrev s_divisor : Stmt := top 18
abbrev s_is_fraction : Stmt := top 19
abbrev s_is_price : Stmt := top 25
abbrev s_is_letter_tongues : Stmt := top 26
abbrev s_is_sign : Stmt := top 28
abbrev s_are_signs : Stmt := top 29
abbrev s_are_unlike_texts : Stmt := top 30
abbrev s_look_at_tongue : Stmt := top 31
abbrev s_is_letter : Stmt := top 34
abbrev s_is_letter_turning : Stmt := top 34
abbrev s_look_at_letters : Stmt := top 36
abbrev s_called : Stmt := top 37
abbrev s_turned_tongue : Stmt := top 38
abbrev s_turned_text : Stmt := top 39
abbrev s_turned_book : Stmt := top 40
abbrev s_law_cell : Stmt := top 42
abbrev s_law_draws : Stmt := top 43
abbrev s_law_low : Stmt := top 44
abbrev s_law_letters : Stmt := top 45
abbrev s_law_sign : Stmt := top 46
abbrev s_law_tongue : Stmt := top 47
abbrev s_law_comes : Stmt := top 48
abbrev s_law_longer : Stmt := top 49
abbrev s_law_texts : Stmt := top 50
abbrev s_law_words : Stmt := top 51
abbrev s_law_is_no_turn : Stmt := top 52
abbrev s_law_copy : Stmt := top 53
abbrev s_law_called : Stmt := top 54
abbrev s_law_drawn_text : Stmt := top 55
abbrev s_law_drawn_letters : Stmt := top 56
abbrev s_law_no_letters : Stmt := top 57
abbrev s_law_refused : Stmt := top 58
abbrev s_law_no_tongues : Stmt := top 59
abbrev s_law_part : Stmt := top 60
abbrev s_law_turned : Stmt := top 61
abbrev s_law_book_right : Stmt := top 62
abbrev s_law : Stmt := top 63
theorem sc_is_whole : FnScope ["thing"] ["thing"] (defScope s_is_whole) := ⟨rfl, rfl, rfl, by decide +kernel, rfl, by decide +kernel, by decide +kernel⟩
theorem sc_divisor : FnScope ["one", "other"] ["one", "other"] (defScope s_divisor) := ⟨rfl, rfl, rfl, by decide +kernel, rfl, by decide +kernel, by decide +kernel⟩
theorem sc_is_fraction : FnScope ["thing", "top", "bottom"] ["thing"] (defScope s_is_fraction) := ⟨rfl, rfl, rfl, by decide +kernel, rfl, by decide +kernel, by decide +kernel⟩
theorem sc_is_price : FnScope ["thing"] ["thing"] (defScope s_is_price) := ⟨rfl, rfl, rfl, by decide +kernel, rfl, by decide +kernel, by decide +kernel⟩
theorem sc_is_letter_tongues : FnScope ["thing"] ["thing"] (defScope s_is_letter_tongues) := ⟨rfl, rfl, rfl, by decide +kernel, rfl, by decide +kernel, by decide +kernel⟩
theorem sc_is_sign : FnScope ["thing", "sign", "price", "last"] ["thing"] (defScope s_is_sign) := ⟨rfl, rfl, rfl, by decide +kernel, rfl, by decide +kernel, by decide +kernel⟩
theorem sc_are_signs : FnScope ["thing", "one"] ["thing"] (defScope s_are_signs) := ⟨rfl, rfl, rfl, by decide +kernel, rfl, by decide +kernel, by decide +kernel⟩
theorem sc_are_unlike_texts : FnScope ["thing", "size", "letters", "at", "one", "sign"] ["thing", "size", "letters"] (defScope s_are_unlike_texts) := ⟨rfl, rfl, rfl, by decide +kernel, rfl, by decide +kernel, by decide +kernel⟩
theorem sc_look_at_tongue : FnScope ["thing", "signs", "firsts", "pairs", "longest", "letters", "one"] ["thing"] (defScope s_look_at_tongue) := ⟨rfl, rfl, rfl, by decide +kernel, rfl, by decide +kernel, by decide +kernel⟩
theorem sc_is_letter : FnScope ["thing"] ["thing"] (defScope s_is_letter) := ⟨rfl, rfl, rfl, by decide +kernel, rfl, by decide +kernel, by decide +kernel⟩
theorem sc_is_letter_turning : FnScope ["thing"] ["thing"] (defScope s_is_letter_turning) := ⟨rfl, rfl, rfl, by decide +kernel, rfl, by decide +kernel, by decide +kernel⟩
theorem sc_look_at_letters : FnScope ["tongue", "letters", "one"] ["tongue", "letters"] (defScope s_look_at_letters) := ⟨rfl, rfl, rfl, by decide +kernel, rfl, by decide +kernel, by decide +kernel⟩
theorem sc_called : FnScope ["tongue", "letters", "text", "names", "row", "letter", "sign"] ["tongue", "letters", "text"] (defScope s_called) := ⟨rfl, rfl, rfl, by decide +kernel, rfl, by decide +kernel, by decide +kernel⟩
theorem sc_turned_tongue : FnScope ["tongue", "letters", "signs", "firsts", "pairs", "longest", "rows", "heads", "sign", "price", "last", "pair"] ["tongue", "letters"] (defScope s_turned_tongue) := ⟨rfl, rfl, rfl, by decide +kernel, rfl, by decide +kernel, by decide +kernel⟩
theorem sc_turned_text : FnScope ["tongue", "letters", "text"] ["tongue", "letters", "text"] (defScope s_turned_text) := ⟨rfl, rfl, rfl, by decide +kernel, rfl, by decide +kernel, by decide +kernel⟩
theorem sc_turned_book : FnScope ["tongue", "letters", "book", "word"] ["tongue", "letters", "book"] (defScope s_turned_book) := ⟨rfl, rfl, rfl, by decide +kernel, rfl, by decide +kernel, by decide +kernel⟩
theorem sc_law_cell : FnScope ["_law_script", "_law_k"] ["_law_script", "_law_k"] (defScope s_law_cell) := ⟨rfl, rfl, rfl, by decide +kernel, rfl, by decide +kernel, by decide +kernel⟩
theorem sc_law_draws : FnScope ["_law_cell_here", "_law_k", "_law_sizes", "_law_number", "_law_great", "_law_mixed", "_law_found", "_law_turn", "_law_size"] ["_law_cell_here", "_law_k", "_law_sizes"] (defScope s_law_draws) := ⟨rfl, rfl, rfl, by decide +kernel, rfl, by decide +kernel, by decide +kernel⟩
theorem sc_law_low : FnScope ["_law_top", "_law_bottom", "_law_one", "_law_other"] ["_law_top", "_law_bottom"] (defScope s_law_low) := ⟨rfl, rfl, rfl, by decide +kernel, rfl, by decide +kernel, by decide +kernel⟩
theorem sc_law_letters : FnScope ["_law_row", "_law_many", "_law_step", "_law_k"] ["_law_row", "_law_many"] (defScope s_law_letters) := ⟨rfl, rfl, rfl, by decide +kernel, rfl, by decide +kernel, by decide +kernel⟩
theorem sc_law_sign : FnScope ["_law_cell_here", "_law_k", "_law_letter", "_law_dear", "_law_one", "_law_price", "_law_other"] ["_law_cell_here", "_law_k", "_law_letter", "_law_dear"] (defScope s_law_sign) := ⟨rfl, rfl, rfl, by decide +kernel, rfl, by decide +kernel, by decide +kernel⟩
theorem sc_law_tongue : FnScope ["_law_script", "_law_most", "_law_longest", "_law_row", "_law_many", "_law_letters_here", "_law_signs", "_law_k", "_law_letter", "_law_bans", "_law_firsts", "_law_pairs"] ["_law_script", "_law_most", "_law_longest"] (defScope s_law_tongue) := ⟨rfl, rfl, rfl, by decide +kernel, rfl, by decide +kernel, by decide +kernel⟩
theorem sc_law_comes : FnScope ["_law_tongue_here", "_law_ahead", "_law_sign_here"] ["_law_tongue_here", "_law_ahead", "_law_sign_here"] (defScope s_law_comes) := ⟨rfl, rfl, rfl, by decide +kernel, rfl, by decide +kernel, by decide +kernel⟩
theorem sc_law_longer : FnScope ["_law_tongue_here", "_law_text", "_law_one"] ["_law_tongue_here", "_law_text"] (defScope s_law_longer) := ⟨rfl, rfl, rfl, by decide +kernel, rfl, by decide +kernel, by decide +kernel⟩
theorem sc_law_texts : FnScope ["_law_tongue_here", "_law_found", "_law_row", "_law_deep", "_law_longer_here", "_law_text"] ["_law_tongue_here"] (defScope s_law_texts) := ⟨rfl, rfl, rfl, by decide +kernel, rfl, by decide +kernel, by decide +kernel⟩
theorem sc_law_words : FnScope ["_law_tongue_here", "_law_lasts", "_law_one", "_law_text"] ["_law_tongue_here"] (defScope s_law_words) := ⟨rfl, rfl, rfl, by decide +kernel, rfl, by decide +kernel, by decide +kernel⟩
theorem sc_law_is_no_turn : FnScope ["_law_kept", "_law_others"] ["_law_kept"] (defScope s_law_is_no_turn) := ⟨rfl, rfl, rfl, by decide +kernel, rfl, by decide +kernel, by decide +kernel⟩
theorem sc_law_copy : FnScope ["_law_tongue_here"] ["_law_tongue_here"] (defScope s_law_copy) := ⟨rfl, rfl, rfl, by decide +kernel, rfl, by decide +kernel, by decide +kernel⟩
theorem sc_law_called : FnScope ["_law_tongue_here", "_law_letters_here", "_law_text", "_law_signs", "_law_one", "_law_sign_here"] ["_law_tongue_here", "_law_letters_here", "_law_text"] (defScope s_law_called) := ⟨rfl, rfl, rfl, by decide +kernel, rfl, by decide +kernel, by decide +kernel⟩
theorem sc_law_drawn_text : FnScope ["_law_tongue_here", "_law_cell_here", "_law_k", "_law_row", "_law_place"] ["_law_tongue_here", "_law_cell_here", "_law_k"] (defScope s_law_drawn_text) := ⟨rfl, rfl, rfl, by decide +kernel, rfl, by decide +kernel, by decide +kernel⟩
theorem sc_law_drawn_letters : FnScope ["_law_cell_here", "_law_k", "_law_many", "_law_row"] ["_law_cell_here", "_law_k", "_law_many"] (defScope s_law_drawn_letters) := ⟨rfl, rfl, rfl, by decide +kernel, rfl, by decide +kernel, by decide +kernel⟩
theorem sc_law_no_letters : FnScope ["_law_letters_here", "_law_cell_here", "_law_k", "_law_more", "_law_some", "_law_odd", "_law_place", "_law_one"] ["_law_letters_here", "_law_cell_here", "_law_k"] (defScope s_law_no_letters) := ⟨rfl, rfl, rfl, by decide +kernel, rfl, by decide +kernel, by decide +kernel⟩
theorem sc_law_refused : FnScope ["_law_tongue_here", "_law_thing", "_law_way", "_law_kept", "_law_text", "e", "_law_one"] ["_law_tongue_here", "_law_thing", "_law_way"] (defScope s_law_refused) := ⟨rfl, rfl, rfl, by decide +kernel, rfl, by decide +kernel, by decide +kernel⟩
theorem sc_law_no_tongues : FnScope ["_law_tongue_here", "_law_signs", "_law_firsts", "_law_pairs", "_law_longest", "_law_sign_here", "_law_price", "_law_last", "_law_some"] ["_law_tongue_here"] (defScope s_law_no_tongues) := ⟨rfl, rfl, rfl, by decide +kernel, rfl, by decide +kernel, by decide +kernel⟩
theorem sc_law_part : FnScope ["_law_thing", "_law_letters_here", "_law_text", "_law_way", "_law_kept", "e"] ["_law_thing", "_law_letters_here", "_law_text", "_law_way"] (defScope s_law_part) := ⟨rfl, rfl, rfl, by decide +kernel, rfl, by decide +kernel, by decide +kernel⟩
theorem sc_law_turned : FnScope ["_law_tongue_here", "_law_letters_here", "_law_signs", "_law_firsts", "_law_k", "_law_one", "_law_sign_here", "_law_pair"] ["_law_tongue_here", "_law_letters_here"] (defScope s_law_turned) := ⟨rfl, rfl, rfl, by decide +kernel, rfl, by decide +kernel, by decide +kernel⟩
theorem sc_law_book_right : FnScope ["_law_tongue_here", "_law_letters_here", "_law_book", "_law_text", "_law_handed", "_law_words_here", "_law_due", "_law_called_so", "_law_found", "_law_one"] ["_law_tongue_here", "_law_letters_here", "_law_book", "_law_text"] (defScope s_law_book_right) := ⟨rfl, rfl, rfl, by decide +kernel, rfl, by decide +kernel, by decide +kernel⟩
theorem sc_law : FnScope ["_law_script", "_law_tongue_here", "_law_kept", "_law_k", "_law_cell_here", "_law_letters_here", "_law_handed", "_law_found", "_law_book", "_law_odd", "_law_thing", "_law_part_here", "_law_one", "_law_j"] ["_law_script"] (defScope s_law) := ⟨rfl, rfl, rfl, by decide +kernel, rfl, by decide +kernel, by decide +kernel⟩
theorem st_is_whole {a0 : V} : start ["thing"] [a0] = [some a0] := rfl
theorem st_divisor {a0 a1 : V} : start ["one", "other"] [a0, a1] = [some a0, some a1] := rfl
theorem st_is_fraction {a0 : V} : start ["thing", "top", "bottom"] [a0] = [some a0, none, none] := rfl
theorem st_is_price {a0 : V} : start ["thing"] [a0] = [some a0] := rfl
theorem st_is_letter_tongues {a0 : V} : start ["thing"] [a0] = [some a0] := rfl
theorem st_is_sign {a0 : V} : start ["thing", "sign", "price", "last"] [a0] = [some a0, none, none, none] := rfl
theorem st_are_signs {a0 : V} : start ["thing", "one"] [a0] = [some a0, none] := rfl
theorem st_are_unlike_texts {a0 a1 a2 : V} : start ["thing", "size", "letters", "at", "one", "sign"] [a0, a1, a2] = [some a0, some a1, some a2, none, none, none] := rfl
theorem st_look_at_tongue {a0 : V} : start ["thing", "signs", "firsts", "pairs", "longest", "letters", "one"] [a0] = [some a0, none, none, none, none, none, none] := rfl
theorem st_is_letter {a0 : V} : start ["thing"] [a0] = [some a0] := rfl
theorem st_is_letter_turning {a0 : V} : start ["thing"] [a0] = [some a0] := rfl
theorem st_look_at_letters {a0 a1 : V} : start ["tongue", "letters", "one"] [a0, a1] = [some a0, some a1, none] := rfl
theorem st_called {a0 a1 a2 : V} : start ["tongue", "letters", "text", "names", "row", "letter", "sign"] [a0, a1, a2] = [some a0, some a1, some a2, none, none, none, none] := rfl
theorem st_turned_tongue {a0 a1 : V} : start ["tongue", "letters", "signs", "firsts", "pairs", "longest", "rows", "heads", "sign", "price", "last", "pair"] [a0, a1] = [some a0, some a1, none, none, none, none, none, none, none, none, none, none] := rfl
theorem st_turned_text {a0 a1 a2 : V} : start ["tongue", "letters", "text"] [a0, a1, a2] = [some a0, some a1, some a2] := rfl
theorem st_turned_book {a0 a1 a2 : V} : start ["tongue", "letters", "book", "word"] [a0, a1, a2] = [some a0, some a1, some a2, none] := rfl
theorem st_law_cell {a0 a1 : V} : start ["_law_script", "_law_k"] [a0, a1] = [some a0, some a1] := rfl
theorem st_law_draws {a0 a1 a2 : V} : start ["_law_cell_here", "_law_k", "_law_sizes", "_law_number", "_law_great", "_law_mixed", "_law_found", "_law_turn", "_law_size"] [a0, a1, a2] = [some a0, some a1, some a2, none, none, none, none, none, none] := rfl
theorem st_law_low {a0 a1 : V} : start ["_law_top", "_law_bottom", "_law_one", "_law_other"] [a0, a1] = [some a0, some a1, none, none] := rfl
theorem st_law_letters {a0 a1 : V} : start ["_law_row", "_law_many", "_law_step", "_law_k"] [a0, a1] = [some a0, some a1, none, none] := rfl
theorem st_law_sign {a0 a1 a2 a3 : V} : start ["_law_cell_here", "_law_k", "_law_letter", "_law_dear", "_law_one", "_law_price", "_law_other"] [a0, a1, a2, a3] = [some a0, some a1, some a2, some a3, none, none, none] := rfl
theorem st_law_tongue {a0 a1 a2 : V} : start ["_law_script", "_law_most", "_law_longest", "_law_row", "_law_many", "_law_letters_here", "_law_signs", "_law_k", "_law_letter", "_law_bans", "_law_firsts", "_law_pairs"] [a0, a1, a2] = [some a0, some a1, some a2, none, none, none, none, none, none, none, none, none] := rfl
theorem st_law_comes {a0 a1 a2 : V} : start ["_law_tongue_here", "_law_ahead", "_law_sign_here"] [a0, a1, a2] = [some a0, some a1, some a2] := rfl
theorem st_law_longer {a0 a1 : V} : start ["_law_tongue_here", "_law_text", "_law_one"] [a0, a1] = [some a0, some a1, none] := rfl
theorem st_law_texts {a0 : V} : start ["_law_tongue_here", "_law_found", "_law_row", "_law_deep", "_law_longer_here", "_law_text"] [a0] = [some a0, none, none, none, none, none] := rfl
theorem st_law_words {a0 : V} : start ["_law_tongue_here", "_law_lasts", "_law_one", "_law_text"] [a0] = [some a0, none, none, none] := rfl
theorem st_law_is_no_turn {a0 : V} : start ["_law_kept", "_law_others"] [a0] = [some a0, none] := rfl
theorem st_law_copy {a0 : V} : start ["_law_tongue_here"] [a0] = [some a0] := rfl
theorem st_law_called {a0 a1 a2 : V} : start ["_law_tongue_here", "_law_letters_here", "_law_text", "_law_signs", "_law_one", "_law_sign_here"] [a0, a1, a2] = [some a0, some a1, some a2, none, none, none] := rfl
theorem st_law_drawn_text {a0 a1 a2 : V} : start ["_law_tongue_here", "_law_cell_here", "_law_k", "_law_row", "_law_place"] [a0, a1, a2] = [some a0, some a1, some a2, none, none] := rfl
theorem st_law_drawn_letters {a0 a1 a2 : V} : start ["_law_cell_here", "_law_k", "_law_many", "_law_row"] [a0, a1, a2] = [some a0, some a1, some a2, none] := rfl
theorem st_law_no_letters {a0 a1 a2 : V} : start ["_law_letters_here", "_law_cell_here", "_law_k", "_law_more", "_law_some", "_law_odd", "_law_place", "_law_one"] [a0, a1, a2] = [some a0, some a1, some a2, none, none, none, none, none] := rfl
theorem st_law_refused {a0 a1 a2 : V} : start ["_law_tongue_here", "_law_thing", "_law_way", "_law_kept", "_law_text", "e", "_law_one"] [a0, a1, a2] = [some a0, some a1, some a2, none, none, none, none] := rfl
theorem st_law_no_tongues {a0 : V} : start ["_law_tongue_here", "_law_signs", "_law_firsts", "_law_pairs", "_law_longest", "_law_sign_here", "_law_price", "_law_last", "_law_some"] [a0] = [some a0, none, none, none, none, none, none, none, none] := rfl
theorem st_law_part {a0 a1 a2 a3 : V} : start ["_law_thing", "_law_letters_here", "_law_text", "_law_way", "_law_kept", "e"] [a0, a1, a2, a3] = [some a0, some a1, some a2, some a3, none, none] := rfl
theorem st_law_turned {a0 a1 : V} : start ["_law_tongue_here", "_law_letters_here", "_law_signs", "_law_firsts", "_law_k", "_law_one", "_law_sign_here", "_law_pair"] [a0, a1] = [some a0, some a1, none, none, none, none, none, none] := rfl
theorem st_law_book_right {a0 a1 a2 a3 : V} : start ["_law_tongue_here", "_law_letters_here", "_law_book", "_law_text", "_law_handed", "_law_words_here", "_law_due", "_law_called_so", "_law_found", "_law_one"] [a0, a1, a2, a3] = [some a0, some a1, some a2, some a3, none, none, none, none, none, none] := rfl
theorem st_law {a0 : V} : start ["_law_script", "_law_tongue_here", "_law_kept", "_law_k", "_law_cell_here", "_law_letters_here", "_law_handed", "_law_found", "_law_book", "_law_odd", "_law_thing", "_law_part_here", "_law_one", "_law_j"] [a0] = [some a0, none, none, none, none, none, none, none, none, none, none, none, none, none] := rfl
abbrev si_NoTongue : Stmt := (Z.clsB (top 11)).getD 0 (.Pass ⟨0, 0, 0, 0⟩)
theorem sti_NoTongue {a0 a1 : V} : start ["self", "part"] [a0, a1] = [some a0, some a1] := rfl
theorem sci_NoTongue : FnScope ["self", "part"] ["self", "part"] (defScope si_NoTongue) := ⟨rfl, rfl, rfl, by decide +kernel, rfl, by decide +kernel, by decide +kernel⟩
abbrev si_NoWants : Stmt := (Z.clsB (top 12)).getD 0 (.Pass ⟨0, 0, 0, 0⟩)
theorem sti_NoWants {a0 a1 : V} : start ["self", "number"] [a0, a1] = [some a0, some a1] := rfl
theorem sci_NoWants : FnScope ["self", "number"] ["self", "number"] (defScope si_NoWants) := ⟨rfl, rfl, rfl, by decide +kernel, rfl, by decide +kernel, by decide +kernel⟩
abbrev si_NoThing : Stmt := (Z.clsB (top 13)).getD 0 (.Pass ⟨0, 0, 0, 0⟩)
theorem sti_NoThing {a0 a1 : V} : start ["self", "place"] [a0, a1] = [some a0, some a1] := rfl
theorem sci_NoThing : FnScope ["self", "place"] ["self", "place"] (defScope si_NoThing) := ⟨rfl, rfl, rfl, by decide +kernel, rfl, by decide +kernel, by decide +kernel⟩
abbrev si_BadSign : Stmt := (Z.clsB (top 14)).getD 0 (.Pass ⟨0, 0, 0, 0⟩)
theorem sti_BadSign {a0 a1 : V} : start ["self", "place"] [a0, a1] = [some a0, some a1] := rfl
theorem sci_BadSign : FnScope ["self", "place"] ["self", "place"] (defScope si_BadSign) := ⟨rfl, rfl, rfl, by decide +kernel, rfl, by decide +kernel, by decide +kernel⟩
abbrev si_NoText : Stmt := (Z.clsB (top 15)).getD 0 (.Pass ⟨0, 0, 0, 0⟩)
theorem sti_NoText {a0 a1 : V} : start ["self", "row"] [a0, a1] = [some a0, some a1] := rfl
theorem sci_NoText : FnScope ["self", "row"] ["self", "row"] (defScope si_NoText) := ⟨rfl, rfl, rfl, by decide +kernel, rfl, by decide +kernel, by decide +kernel⟩
abbrev ecs : List Str := ["DearError", "NoNumber", "NoBook", "NoTree", "TooMany", "NoCount", "NoUndo", "NoTurn", "NoRow", "Unknown", "NoTongue", "NoWants", "NoThing", "BadSign", "NoText"]
abbrev ems : List (Str × Str) := [("NoTongue", "part"), ("NoWants", "number"), ("NoThing", "place"), ("BadSign", "place"), ("NoText", "row")]
abbrev ens : List Str := ["NoNumber", "NoBook", "NoTree", "TooMany", "NoCount", "NoUndo", "NoTurn", "NoRow", "Unknown"]
structure Txt (K : PySem.W.Frag) (mg : Str → Option Value) : Prop where
  ex : Z.Exs K mg "DearError" ecs ems ens
  i_NoTongue : Z.AtM K ("NoTongue", some "__init__") "__init__" "NoTongue.__init__" si_NoTongue
  i_NoWants : Z.AtM K ("NoWants", some "__init__") "__init__" "NoWants.__init__" si_NoWants
  i_NoThing : Z.AtM K ("NoThing", some "__init__") "__init__" "NoThing.__init__" si_NoThing
  i_BadSign : Z.AtM K ("BadSign", some "__init__") "__init__" "BadSign.__init__" si_BadSign
  i_NoText : Z.AtM K ("NoText", some "__init__") "__init__" "NoText.__init__" si_NoText
  d_is_whole : Z.At K mg "is_whole" "is_whole" s_is_whole []
  d_divisor : Z.At K mg "divisor" "divisor" s_divisor []
  d_is_fraction : Z.At K mg "is_fraction" "is_fraction" s_is_fraction []
  d_is_price : Z.At K mg "is_price" "is_price" s_is_price []
  d_is_letter_tongues : Z.At K mg "is_letter_tongues" "is_letter" s_is_letter_tongues []
  d_is_sign : Z.At K mg "is_sign" "is_sign" s_is_sign []
  d_are_signs : Z.At K mg "are_signs" "are_signs" s_are_signs []
  d_are_unlike_texts : Z.At K mg "are_unlike_texts" "are_unlike_texts" s_are_unlike_texts []
  d_look_at_tongue : Z.At K mg "look_at_tongue" "look_at_tongue" s_look_at_tongue []
  d_is_letter : Z.At K mg "is_letter" "is_letter" s_is_letter []
  d_is_letter_turning : Z.At K mg "is_letter_turning" "is_letter" s_is_letter_turning []
  d_look_at_letters : Z.At K mg "look_at_letters" "look_at_letters" s_look_at_letters []
  d_called : Z.At K mg "called" "called" s_called []
  d_turned_tongue : Z.At K mg "turned_tongue" "turned_tongue" s_turned_tongue []
  d_turned_text : Z.At K mg "turned_text" "turned_text" s_turned_text []
  d_turned_book : Z.At K mg "turned_book" "turned_book" s_turned_book []
  d_law_cell : Z.At K mg "_law_cell" "_law_cell" s_law_cell []
  d_law_draws : Z.At K mg "_law_draws" "_law_draws" s_law_draws []
  d_law_low : Z.At K mg "_law_low" "_law_low" s_law_low []
  d_law_letters : Z.At K mg "_law_letters" "_law_letters" s_law_letters []
  d_law_sign : Z.At K mg "_law_sign" "_law_sign" s_law_sign []
  d_law_tongue : Z.At K mg "_law_tongue" "_law_tongue" s_law_tongue []
  d_law_comes : Z.At K mg "_law_comes" "_law_comes" s_law_comes []
  d_law_longer : Z.At K mg "_law_longer" "_law_longer" s_law_longer []
  d_law_texts : Z.At K mg "_law_texts" "_law_texts" s_law_texts []
  d_law_words : Z.At K mg "_law_words" "_law_words" s_law_words []
  d_law_is_no_turn : Z.At K mg "_law_is_no_turn" "_law_is_no_turn" s_law_is_no_turn []
  d_law_copy : Z.At K mg "_law_copy" "_law_copy" s_law_copy []
  d_law_called : Z.At K mg "_law_called" "_law_called" s_law_called []
  d_law_drawn_text : Z.At K mg "_law_drawn_text" "_law_drawn_text" s_law_drawn_text []
  d_law_drawn_letters : Z.At K mg "_law_drawn_letters" "_law_drawn_letters" s_law_drawn_letters []
  d_law_no_letters : Z.At K mg "_law_no_letters" "_law_no_letters" s_law_no_letters []
  d_law_refused : Z.At K mg "_law_refused" "_law_refused" s_law_refused []
  d_law_no_tongues : Z.At K mg "_law_no_tongues" "_law_no_tongues" s_law_no_tongues []
  d_law_part : Z.At K mg "_law_part" "_law_part" s_law_part []
  d_law_turned : Z.At K mg "_law_turned" "_law_turned" s_law_turned []
  d_law_book_right : Z.At K mg "_law_book_right" "_law_book_right" s_law_book_right []
  d_law : Z.At K mg "law" "law" s_law []
  b_ValueError : mg "ValueError" = none
  b_abs : mg "abs" = none
  b_all : mg "all" = none
  b_bool : mg "bool" = none
  b_dict : mg "dict" = none
  b_enumerate : mg "enumerate" = none
  b_int : mg "int" = none
  b_isinstance : mg "isinstance" = none
  b_len : mg "len" = none
  b_list : mg "list" = none
  b_range : mg "range" = none
  b_set : mg "set" = none
  b_str : mg "str" = none
  b_tuple : mg "tuple" = none
  b_zip : mg "zip" = none
  c_LETTERS_tongues : ∃ u, mg "LETTERS_tongues" = some u ∧ RelV (.str "abcdefghijklmnopqrstuvwxyz") u
  c_FEWEST_SIGNS : ∃ u, mg "FEWEST_SIGNS" = some u ∧ RelV (.int 2) u
  c_MOST_SIGNS : ∃ u, mg "MOST_SIGNS" = some u ∧ RelV (.int 6) u
  c_LONGEST : ∃ u, mg "LONGEST" = some u ∧ RelV (.int 8) u
  c_LETTERS_turning : ∃ u, mg "LETTERS_turning" = some u ∧ RelV (.str "abcdefghijklmnopqrstuvwxyz") u
  k_DearError : mg "DearError" = some (.ref (He.ga K "DearError"))
  k_NoNumber : mg "NoNumber" = some (.ref (He.ga K "NoNumber"))
  k_NoBook : mg "NoBook" = some (.ref (He.ga K "NoBook"))
  k_NoTree : mg "NoTree" = some (.ref (He.ga K "NoTree"))
  k_TooMany : mg "TooMany" = some (.ref (He.ga K "TooMany"))
  k_NoCount : mg "NoCount" = some (.ref (He.ga K "NoCount"))
  k_NoUndo : mg "NoUndo" = some (.ref (He.ga K "NoUndo"))
  k_NoTurn : mg "NoTurn" = some (.ref (He.ga K "NoTurn"))
  k_NoRow : mg "NoRow" = some (.ref (He.ga K "NoRow"))
  k_Unknown : mg "Unknown" = some (.ref (He.ga K "Unknown"))
  k_NoTongue : mg "NoTongue" = some (.ref (He.ga K "NoTongue"))
  k_NoWants : mg "NoWants" = some (.ref (He.ga K "NoWants"))
  k_NoThing : mg "NoThing" = some (.ref (He.ga K "NoThing"))
  k_BadSign : mg "BadSign" = some (.ref (He.ga K "BadSign"))
  k_NoText : mg "NoText" = some (.ref (He.ga K "NoText"))
/-! ### the head: facts by names, the run -/
def dd_is_whole : He.DefD := ⟨("is_whole", none), "is_whole", "is_whole", defArgs s_is_whole, defBody s_is_whole, defScope s_is_whole, [], []⟩
def dd_divisor : He.DefD := ⟨("divisor", none), "divisor", "divisor", defArgs s_divisor, defBody s_divisor, defScope s_divisor, [], []⟩
def dd_is_fraction : He.DefD := ⟨("is_fraction", none), "is_fraction", "is_fraction", defArgs s_is_fraction, defBody s_is_fraction, defScope s_is_fraction, [], []⟩
def dd_is_price : He.DefD := ⟨("is_price", none), "is_price", "is_price", defArgs s_is_price, defBody s_is_price, defScope s_is_price, [], []⟩
def dd_is_letter_tongues : He.DefD := ⟨("is_letter_tongues", none), "is_letter", "is_letter", defArgs s_is_letter_tongues, defBody s_is_letter_tongues, defScope s_is_letter_tongues, [], []⟩
def dd_is_sign : He.DefD := ⟨("is_sign", none), "is_sign", "is_sign", defArgs s_is_sign, defBody s_is_sign, defScope s_is_sign, [], []⟩
def dd_are_signs : He.DefD := ⟨("are_signs", none), "are_signs", "are_signs", defArgs s_are_signs, defBody s_are_signs, defScope s_are_signs, [], []⟩
def dd_are_unlike_texts : He.DefD := ⟨("are_unlike_texts", none), "are_unlike_texts", "are_unlike_texts", defArgs s_are_unlike_texts, defBody s_are_unlike_texts, defScope s_are_unlike_texts, [], []⟩
def dd_look_at_tongue : He.DefD := ⟨("look_at_tongue", none), "look_at_tongue", "look_at_tongue", defArgs s_look_at_tongue, defBody s_look_at_tongue, defScope s_look_at_tongue, [], []⟩
def dd_is_letter : He.DefD := ⟨("is_letter", none), "is_letter", "is_letter", defArgs s_is_letter, defBody s_is_letter, defScope s_is_letter, [], []⟩
def dd_is_letter_turning : He.DefD := ⟨("is_letter_turning", none), "is_letter", "is_letter", defArgs s_is_letter_turning, defBody s_is_letter_turning, defScope s_is_letter_turning, [], []⟩
def dd_look_at_letters : He.DefD := ⟨("look_at_letters", none), "look_at_letters", "look_at_letters", defArgs s_look_at_letters, defBody s_look_at_letters, defScope s_look_at_letters, [], []⟩
def dd_called : He.DefD := ⟨("called", none), "called", "called", defArgs s_called, defBody s_called, defScope s_called, [], []⟩
def dd_turned_tongue : He.DefD := ⟨("turned_tongue", none), "turned_tongue", "turned_tongue", defArgs s_turned_tongue, defBody s_turned_tongue, defScope s_turned_tongue, [], []⟩
def dd_turned_text : He.DefD := ⟨("turned_text", none), "turned_text", "turned_text", defArgs s_turned_text, defBody s_turned_text, defScope s_turned_text, [], []⟩
def dd_turned_book : He.DefD := ⟨("turned_book", none), "turned_book", "turned_book", defArgs s_turned_book, defBody s_turned_book, defScope s_turned_book, [], []⟩
def dd_law_cell : He.DefD := ⟨("_law_cell", none), "_law_cell", "_law_cell", defArgs s_law_cell, defBody s_law_cell, defScope s_law_cell, [], []⟩
def dd_law_draws : He.DefD := ⟨("_law_draws", none), "_law_draws", "_law_draws", defArgs s_law_draws, defBody s_law_draws, defScope s_law_draws, [], []⟩
def dd_law_low : He.DefD := ⟨("_law_low", none), "_law_low", "_law_low", defArgs s_law_low, defBody s_law_low, defScope s_law_low, [], []⟩
def dd_law_letters : He.DefD := ⟨("_law_letters", none), "_law_letters", "_law_letters", defArgs s_law_letters, defBody s_law_letters, defScope s_law_letters, [], []⟩
def dd_law_sign : He.DefD := ⟨("_law_sign", none), "_law_sign", "_law_sign", defArgs s_law_sign, defBody s_law_sign, defScope s_law_sign, [], []⟩
def dd_law_tongue : He.DefD := ⟨("_law_tongue", none), "_law_tongue", "_law_tongue", defArgs s_law_tongue, defBody s_law_tongue, defScope s_law_tongue, [], []⟩
def dd_law_comes : He.DefD := ⟨("_law_comes", none), "_law_comes", "_law_comes", defArgs s_law_comes, defBody s_law_comes, defScope s_law_comes, [], []⟩
def dd_law_longer : He.DefD := ⟨("_law_longer", none), "_law_longer", "_law_longer", defArgs s_law_longer, defBody s_law_longer, defScope s_law_longer, [], []⟩
def dd_law_texts : He.DefD := ⟨("_law_texts", none), "_law_texts", "_law_texts", defArgs s_law_texts, defBody s_law_texts, defScope s_law_texts, [], []⟩
def dd_law_words : He.DefD := ⟨("_law_words", none), "_law_words", "_law_words", defArgs s_law_words, defBody s_law_words, defScope s_law_words, [], []⟩
def dd_law_is_no_turn : He.DefD := ⟨("_law_is_no_turn", none), "_law_is_no_turn", "_law_is_no_turn", defArgs s_law_is_no_turn, defBody s_law_is_no_turn, defScope s_law_is_no_turn, [], []⟩
def dd_law_copy : He.DefD := ⟨("_law_copy", none), "_law_copy", "_law_copy", defArgs s_law_copy, defBody s_law_copy, defScope s_law_copy, [], []⟩
def dd_law_called : He.DefD := ⟨("_law_called", none), "_law_called", "_law_called", defArgs s_law_called, defBody s_law_called, defScope s_law_called, [], []⟩
def dd_law_drawn_text : He.DefD := ⟨("_law_drawn_text", none), "_law_drawn_text", "_law_drawn_text", defArgs s_law_drawn_text, defBody s_law_drawn_text, defScope s_law_drawn_text, [], []⟩
def dd_law_drawn_letters : He.DefD := ⟨("_law_drawn_letters", none), "_law_drawn_letters", "_law_drawn_letters", defArgs s_law_drawn_letters, defBody s_law_drawn_letters, defScope s_law_drawn_letters, [], []⟩
def dd_law_no_letters : He.DefD := ⟨("_law_no_letters", none), "_law_no_letters", "_law_no_letters", defArgs s_law_no_letters, defBody s_law_no_letters, defScope s_law_no_letters, [], []⟩
def dd_law_refused : He.DefD := ⟨("_law_refused", none), "_law_refused", "_law_refused", defArgs s_law_refused, defBody s_law_refused, defScope s_law_refused, [], []⟩
def dd_law_no_tongues : He.DefD := ⟨("_law_no_tongues", none), "_law_no_tongues", "_law_no_tongues", defArgs s_law_no_tongues, defBody s_law_no_tongues, defScope s_law_no_tongues, [], []⟩
def dd_law_part : He.DefD := ⟨("_law_part", none), "_law_part", "_law_part", defArgs s_law_part, defBody s_law_part, defScope s_law_part, [], []⟩
def dd_law_turned : He.DefD := ⟨("_law_turned", none), "_law_turned", "_law_turned", defArgs s_law_turned, defBody s_law_turned, defScope s_law_turned, [], []⟩
def dd_law_book_right : He.DefD := ⟨("_law_book_right", none), "_law_book_right", "_law_book_right", defArgs s_law_book_right, defBody s_law_book_right, defScope s_law_book_right, [], []⟩
def dd_law : He.DefD := ⟨("law", none), "law", "law", defArgs s_law, defBody s_law, defScope s_law, [], []⟩
def di_NoTongue : He.DefD := ⟨("NoTongue", some "__init__"), "__init__", "NoTongue.__init__", defArgs si_NoTongue, defBody si_NoTongue, defScope si_NoTongue, [], []⟩
def di_NoWants : He.DefD := ⟨("NoWants", some "__init__"), "__init__", "NoWants.__init__", defArgs si_NoWants, defBody si_NoWants, defScope si_NoWants, [], []⟩
def di_NoThing : He.DefD := ⟨("NoThing", some "__init__"), "__init__", "NoThing.__init__", defArgs si_NoThing, defBody si_NoThing, defScope si_NoThing, [], []⟩
def di_BadSign : He.DefD := ⟨("BadSign", some "__init__"), "__init__", "BadSign.__init__", defArgs si_BadSign, defBody si_BadSign, defScope si_BadSign, [], []⟩
def di_NoText : He.DefD := ⟨("NoText", some "__init__"), "__init__", "NoText.__init__", defArgs si_NoText, defBody si_NoText, defScope si_NoText, [], []⟩
def fn : List He.DefD := [dd_is_whole, dd_divisor, dd_is_fraction, dd_is_price, dd_is_letter_tongues, dd_is_sign, dd_are_signs, dd_are_unlike_texts, dd_look_at_tongue, dd_is_letter, dd_is_letter_turning, dd_look_at_letters, dd_called, dd_turned_tongue, dd_turned_text, dd_turned_book, dd_law_cell, dd_law_draws, dd_law_low, dd_law_letters, dd_law_sign, dd_law_tongue, dd_law_comes, dd_law_longer, dd_law_texts, dd_law_words, dd_law_is_no_turn, dd_law_copy, dd_law_called, dd_law_drawn_text, dd_law_drawn_letters, dd_law_no_letters, dd_law_refused, dd_law_no_tongues, dd_law_part, dd_law_turned, dd_law_book_right, dd_law, di_NoTongue, di_NoWants, di_NoThing, di_BadSign, di_NoText]
def fa : List He.Fa := [.glo "is_whole", .glo "divisor", .glo "is_fraction", .glo "is_price", .glo "is_letter_tongues", .glo "is_sign", .glo "are_signs", .glo "are_unlike_texts", .glo "look_at_tongue", .glo "is_letter", .glo "is_letter_turning", .glo "look_at_letters", .glo "called", .glo "turned_tongue", .glo "turned_text", .glo "turned_book", .glo "_law_cell", .glo "_law_draws", .glo "_law_low", .glo "_law_letters", .glo "_law_sign", .glo "_law_tongue", .glo "_law_comes", .glo "_law_longer", .glo "_law_texts", .glo "_law_words", .glo "_law_is_no_turn", .glo "_law_copy", .glo "_law_called", .glo "_law_drawn_text", .glo "_law_drawn_letters", .glo "_law_no_letters", .glo "_law_refused", .glo "_law_no_tongues", .glo "_law_part", .glo "_law_turned", .glo "_law_book_right", .glo "law", .free "ValueError", .free "abs", .free "all", .free "bool", .free "dict", .free "enumerate", .free "int", .free "isinstance", .free "len", .free "list", .free "range", .free "set", .free "str", .free "tuple", .free "zip", .str "LETTERS_tongues" "abcdefghijklmnopqrstuvwxyz", .int "FEWEST_SIGNS" 2, .int "MOST_SIGNS" 6, .int "LONGEST" 8, .str "LETTERS_turning" "abcdefghijklmnopqrstuvwxyz", .glo "DearError", .glo "NoNumber", .glo "NoBook", .glo "NoTree", .glo "TooMany", .glo "NoCount", .glo "NoUndo", .glo "NoTurn", .glo "NoRow", .glo "Unknown", .glo "NoTongue", .glo "NoWants", .glo "NoThing", .glo "BadSign", .glo "NoText"]
abbrev R : PySem.W.OpenRow := PySem.W.OpenLaw.row PySem.Challenge.rw_dearsigns_k57_letters
def exb : PySem.W.Frag → Bool := Z.exsB "DearError" ecs ems ens
abbrev hk : PySem.W.Hook := Z.hookE 5 fa fn exb
def ob (s : PySem.W.SharedT) : Z.AlE := Z.obsE 5 fa fn exb (HandSHeadRun.getT s)
theorem ob_eq (s : PySem.W.SharedT) : ob s = hk.obs s.abs := Z.obsE_eq (HandSHeadRun.getT_eq s)
def loose0 : List Str := ["DearError", "NoNumber", "NoBook", "NoTree", "TooMany", "NoCount", "NoUndo", "NoTurn", "NoRow", "Unknown", "NoTongue", "NoWants", "NoThing", "BadSign", "NoText", "is_whole", "divisor", "is_fraction", "LETTERS_tongues", "FEWEST_SIGNS", "MOST_SIGNS", "LONGEST", "is_price", "is_letter", "is_letter_tongues", "is_sign", "are_signs", "are_unlike_texts", "look_at_tongue", "LETTERS_turning"]
def loose1 : List Str := ["is_letter_turning", "look_at_letters", "called", "turned_tongue", "turned_text", "turned_book", "_law_cell", "_law_draws", "_law_low", "_law_letters", "_law_sign", "_law_tongue", "_law_comes", "_law_longer", "_law_texts", "_law_words", "_law_is_no_turn", "_law_copy", "_law_called", "_law_drawn_text", "_law_drawn_letters", "_law_no_letters", "_law_refused", "_law_no_tongues", "_law_part", "_law_turned", "_law_book_right"]
def loose : List Str := loose0 ++ loose1
set_option maxHeartbeats 0 in
theorem run (w : World) : HandSHeadRun.RunEq R (PySem.W.view R.prog [63]) hk ob 10000 loose w := by
  intro os
  kernel_rfl

section
variable {P : Program} {w : World} {K : PySem.W.Frag} {mg : Str → Option Value} {base : Heap}
def low (c : Nat) : Bool := decide (97 ≤ c ∧ c ≤ 122)
theorem low_mem (c : Nat) : decide (c ∈ (Str.ofString "abcdefghijklmnopqrstuvwxyz").cps.toList) = low c := by
  have e : (Str.ofString "abcdefghijklmnopqrstuvwxyz").cps.toList = [97, 98, 99, 100, 101, 102, 103, 104, 105, 106, 107, 108, 109, 110, 111, 112, 113, 114, 115, 116, 117, 118, 119, 120, 121, 122] := by decide +kernel
  rw [e]
  unfold low
  rw [decide_eq_decide]
  simp only [List.mem_cons, List.not_mem_nil, or_false]
  omega
def isWhole : PyData → Bool
  | .int _ => true
  | _ => false
def sp_is_whole : Sp := fun vs H Q _ => ∃ x d, vs = [x] ∧ Dq H x d ∧ Q (.bl (isWhole d)) H
theorem ok_is_whole (T : Txt K mg) : Z.C0 P w K mg base 1 "is_whole" (sp_is_whole) := by
  refine T.d_is_whole.c0 sc_is_whole (fun vs H Q E h => ?_) (Z.bd0 fun _ _ _ _ _ _ us hl => match us, hl with | [_], _ => rfl) (fun f cdv A outer s H vs Q E hr h => ⟨_, (pss_one (ps_ret (pe_and (pe_callB (k_isi K) rfl T.b_isinstance (by decide +kernel) (pa_cons (pv 0) (pa_cons (pe_bltn (v := .ty "int") rfl T.b_int (by decide +kernel) rfl) pa_nil))) (pe_one (pe_not (pe_callB (k_isi K) rfl T.b_isinstance (by decide +kernel) (pa_cons (pv 0) (pa_cons (pe_bltn (v := .ty "bool") rfl T.b_bool (by decide +kernel) rfl) pa_nil)))))))), ?_⟩)
  · obtain ⟨x, d, rfl, _⟩ := h
    rfl
  · obtain ⟨x, d, rfl, hd, q⟩ := h
    rw [st_is_whole]
    walk_at "st"
    rcases hd.split with ⟨rfl, rfl⟩ | ⟨b, rfl, rfl⟩ | ⟨i, rfl, rfl⟩ | ⟨z, rfl, rfl, hz⟩ | ⟨a, xs, ds, rfl, rfl, h1, h2, hn⟩ | ⟨a, xs, ds, rfl, rfl, h1, h2, hn⟩ | ⟨a, rfl, rfl, h1⟩
    all_goals
      walk_at "rd"
      exact q
def strOf : PyData → Str
  | .str z => z
  | _ => Str.empty
def rais (K : PySem.W.Frag) (c f : Str) (y : V) (H : Hp) (E : XK) : Prop := ∀ d H', H d = none → Same H H' → H' d = some (.xd [(f, y)]) → E (.ref (He.ga K c)) (some d) H'
theorem strOk_low {z : Str} (h : (tl z).all low = true) : PyData.strOk z = true := by
  unfold PyData.strOk
  rw [← Array.all_toList, List.all_eq_true]
  intro c hc
  have := List.all_eq_true.mp h c hc
  unfold low at this
  have := of_decide_eq_true this
  exact decide_eq_true (by omega)
end
end My

namespace My
open PySem PySem.Spec PyProof.Rows L2 Z M SX TL
section
variable {P : Program} {w : World} {K : PySem.W.Frag} {mg : Str → Option Value} {base : Heap}
/-! ### divisor -/
def sp_divisor : Sp := fun vs H Q _ => ∃ a b : Nat, vs = [.int a, .int b] ∧ Q (.int (Nat.gcd a b : Nat)) H
theorem ok_divisor (T : Txt K mg) : Z.C0 P w K mg base 1 "divisor" (sp_divisor) := by
  refine T.d_divisor.c0 sc_divisor (fun vs H Q E h => ?_) (Z.bd0 fun _ _ _ _ _ _ us hl => match us, hl with | [_, _], _ => rfl) (fun f cdv A outer s H vs Q E hr h => ⟨_, (pss_cons (ps_while PassesOwn.never (pt_cmpR op_gtI (pv 1) pe_int (nomark _))
  (pss_one (ps_par (i := 0) (j := 1) rfl sc_divisor.nd rfl rfl (by decide) rfl rfl (pa_cons (pv 1) (pa_cons (pe_op op_modP (pv 0) (pv 1)) pa_nil)) rfl)))
  (pss_one (ps_ret (pv 0)))), ?_⟩)
  · obtain ⟨a, b, rfl, _⟩ := h
    rfl
  · obtain ⟨a, b, rfl, q⟩ := h
    rw [st_divisor]
    walk_at "st"
    walk_at "rd"
    refine r_while (fun m σ H' => H' = H ∧ ∃ x y : Nat, σ = [some (.int x), some (.int y)] ∧ m = y ∧ Nat.gcd x y = Nat.gcd a b) b (by walk_at "mn") ⟨rfl, a, b, rfl, rfl, rfl⟩ ?_
    rintro m σ _ ⟨rfl, x, y, rfl, rfl, e⟩
    walk_at "rd"
    refine r_ite (fun h1 => ?_) (fun h1 => ?_)
    · walk_at "rd"
      exact ⟨x % m, Nat.mod_lt _ (by omega), rfl, m, x % m, rfl, rfl, (gcd_step (by omega)).trans e⟩
    · walk_at "rd"
      have : m = 0 := by omega
      subst this
      rw [Nat.gcd_zero_right] at e
      rw [e]
      exact q
/-! ### tongues: any data -/
def isNone : PyData → Bool
  | .none => true
  | _ => false
def frac2 : PyData → PyData → Bool
  | .int t, .int b => decide (1 ≤ b) && decide (Nat.gcd b.toNat t.natAbs = 1)
  | _, _ => false
def isFrac : PyData → Bool
  | .tuple [t, b] => frac2 t b
  | _ => false
def isPrice : PyData → Bool
  | .tuple [t, b] => frac2 t b && (match t with | .int t => decide (0 < t) | _ => false)
  | _ => false
def isLetter : PyData → Bool
  | .str z => decide ((tl z).length = 1) && (tl z).all low
  | _ => false
def isSignD : PyData → Bool
  | .tuple [s, p, l] => isLetter s && (isPrice p && (isNone l || isPrice l))
  | _ => false
def signName : PyData → Str
  | .tuple (s :: _) => strOf s
  | _ => Str.empty
def areSigns : PyData → Bool
  | .list ds => decide (2 ≤ ds.length ∧ ds.length ≤ 6) && (ds.all isSignD && decide ((ds.map signName).Nodup))
  | _ => false
def textOk (n : Nat) (ls : List Str) : PyData → Bool
  | .str z => decide (z.length = n) && (tl z).all fun c => decide (S [c] ∈ ls)
  | _ => false
def unlikeOk (n : Nat) (ls : List Str) : PyData → Bool
  | .list ds => ds.all (textOk n ls) && decide ((ds.map strOf).Nodup)
  | _ => false
def longOk : PyData → Bool
  | .int i => decide (1 ≤ i) && decide (i ≤ 8)
  | _ => false
def lettersOf : PyData → List Str
  | .list ds => ds.map signName
  | _ => []
/-- the part that is wrong, if one is -/
def tongueErr : PyData → Option V
  | .tuple [s, f, p, l] => if areSigns s = false then some (.str "signs") else if unlikeOk 1 (lettersOf s) f = false then some (.str "firsts") else if unlikeOk 2 (lettersOf s) p = false then some (.str "pairs") else if longOk l = false then some (.str "longest") else none
  | _ => some .non
theorem none_dq {H : Hp} {v : V} {d : PyData} (h : Dq H v d) : decide (v = .non) = isNone d := by
  cases h <;> first | rfl | simp [isNone]
def sp_is_fraction : Sp := fun vs H Q _ => ∃ x d, vs = [x] ∧ Dq H x d ∧ Q (.bl (isFrac d)) H
theorem ok_is_fraction (T : Txt K mg) : Z.C0 P w K mg base 2 "is_fraction" (sp_is_fraction) := by
  refine T.d_is_fraction.c0 sc_is_fraction (fun vs H Q E h => ?_) (Z.bd0 fun _ _ _ _ _ _ us hl => match us, hl with | [_], _ => rfl) (fun f cdv A outer s H vs Q E hr h => ⟨_, (pss_cons (ps_if (PW.pt (pw_or (pt_not (pt_val (pe_callB (k_isi K) rfl T.b_isinstance (by decide +kernel) (pa_cons (pv 0) (pa_cons (pe_bltn (v := .ty "tuple") rfl T.b_tuple (by decide +kernel) rfl) pa_nil))))) (pw_or1 (pt_cmpR (k_neP K hr.units) (pe_callB (k_len K) rfl T.b_len (by decide +kernel) (pa_cons (pv 0) pa_nil)) pe_int (nomark _)))))
  (pss_one (ps_ret pe_bl)) pss_nil)
  (pss_cons (ps_asg (pv 0) (k_tup (n := 2) K rfl (pgs_cons (pg_name (i := 1) sc_is_fraction.nd rfl (Or.inl rfl)) (pgs_cons (pg_name (i := 2) sc_is_fraction.nd rfl (Or.inl rfl)) pgs_nil))))
  (pss_cons (ps_if (PW.pt (pw_or (pt_not (pt_val (pe_c0 (ok_is_whole T) hr (by decide) rfl (pa_cons (pv 1) pa_nil)))) (pw_or (pt_not (pt_val (pe_c0 (ok_is_whole T) hr (by decide) rfl (pa_cons (pv 2) pa_nil)))) (pw_or1 (pt_cmpR op_ltI (pv 2) pe_int (nomark _))))))
  (pss_one (ps_ret pe_bl)) pss_nil)
  (pss_one (ps_ret (pe_cmpR (k_eqP K hr.units) (pe_c0 (ok_divisor T) hr (by decide) rfl (pa_cons (pv 2) (pa_cons (pe_callB call_absP rfl T.b_abs (by decide +kernel) (pa_cons (pv 1) pa_nil)) pa_nil))) pe_int (nomark _))))))), ?_⟩)
  · obtain ⟨x, d, rfl, _⟩ := h
    rfl
  · obtain ⟨x, d, rfl, hd, q⟩ := h
    rw [st_is_fraction]
    walk_at "st"
    rcases hd.split with ⟨rfl, rfl⟩ | ⟨b, rfl, rfl⟩ | ⟨i, rfl, rfl⟩ | ⟨z, rfl, rfl, hz⟩ | ⟨a, xs, ds, rfl, rfl, h1, h2, hn⟩ | ⟨a, xs, ds, rfl, rfl, h1, h2, hn⟩ | ⟨a, rfl, rfl, h1⟩
    case inr.inr.inr.inr.inr.inl =>
      have no : isFrac (.tuple ds) = false → Q (.bl false) H := fun h => by rwa [h] at q
      have hl := h2.length
      walk_at "rd"
      refine r_nite (fun h3 => ?_) (fun h3 => ?_)
      · walk_at "rd"
        refine no ?_
        match ds, hl with
        | [], _ => rfl
        | [_], _ => rfl
        | [_, _], hl => exact absurd (by rw [hl]; rfl) h3
        | _ :: _ :: _ :: _, _ => rfl
      · match ds, h2 with
        | [], h2 => exact absurd h3 (by rw [hl]; decide)
        | [_], h2 => exact absurd h3 (by rw [hl]; simp)
        | _ :: _ :: _ :: _, h2 => exact absurd h3 (by rw [hl]; simp; omega)
        | [d1, d2], h2 =>
          obtain ⟨v1, vs1, rfl, g1, h2⟩ := h2.cons_inv
          obtain ⟨v2, vs2, rfl, g2, h2⟩ := h2.cons_inv
          obtain rfl := h2.nil_inv
          walk_at "rd"
          refine ⟨v1, d1, rfl, g1, ?_⟩
          rcases g1.split with ⟨rfl, rfl⟩ | ⟨b, rfl, rfl⟩ | ⟨t, rfl, rfl⟩ | ⟨z, rfl, rfl, hz⟩ | ⟨a, xs, ds, rfl, rfl, k1, k2, kn⟩ | ⟨a, xs, ds, rfl, rfl, k1, k2, kn⟩ | ⟨a, rfl, rfl, k1⟩
          case inr.inr.inl =>
            dsimp only [isWhole]
            walk_at "rd"
            refine ⟨v2, d2, rfl, g2, ?_⟩
            rcases g2.split with ⟨rfl, rfl⟩ | ⟨b, rfl, rfl⟩ | ⟨i, rfl, rfl⟩ | ⟨z, rfl, rfl, hz⟩ | ⟨a, xs, ds, rfl, rfl, k1, k2, kn⟩ | ⟨a, xs, ds, rfl, rfl, k1, k2, kn⟩ | ⟨a, rfl, rfl, k1⟩
            case inr.inr.inl =>
              dsimp only [isWhole]
              walk_at "rd"
              have q2 : Q (.bl (decide (1 ≤ i) && decide (Nat.gcd i.toNat t.natAbs = 1))) H := q
              refine r_ite (fun h4 => ?_) (fun h4 => ?_)
              · rw [decide_eq_false (by omega)] at q2
                walk_at "rd"
                exact q2
              · obtain ⟨n, rfl⟩ : ∃ n : Nat, i = n := ⟨i.toNat, by omega⟩
                rw [decide_eq_true (by omega), show ((n : Int)).toNat = n by omega, Bool.true_and] at q2
                walk_at "rd"
                refine ⟨n, t.natAbs, rfl, ?_⟩
                walk_at "rd"
                rw [show decide (((Nat.gcd n t.natAbs : Nat) : Int) = 1) = decide (Nat.gcd n t.natAbs = 1) by rw [decide_eq_decide]; omega]
                exact q2
            all_goals
              dsimp only [isWhole]
              walk_at "rd"
              exact no rfl
          all_goals
            dsimp only [isWhole]
            walk_at "rd"
            exact no (by cases d2 <;> rfl)
    all_goals
      walk_at "rd"
      exact q
theorem frac_ints {d : PyData} (h : isFrac d = true) : ∃ t b : Int, d = .tuple [.int t, .int b] := by
  unfold isFrac at h
  split at h
  · unfold frac2 at h
    split at h
    · exact ⟨_, _, rfl⟩
    · cases h
  · cases h
theorem price_frac (d : PyData) : isPrice d = true → isFrac d = true := fun h => by
  unfold isPrice at h
  split at h
  · exact (Bool.and_eq_true_iff.mp h).1
  · cases h
theorem dq_ints2 {H : Hp} {v : V} {t b : Int} (h : Dq H v (.tuple [.int t, .int b])) : ∃ a, v = .ref a ∧ H a = some (.tup [.int t, .int b]) := by
  cases h with
  | tup h1 h2 _ =>
    obtain ⟨u1, _, rfl, g1, h2⟩ := DqAll.cons_inv h2
    obtain ⟨u2, _, rfl, g2, h2⟩ := DqAll.cons_inv h2
    obtain rfl := DqAll.nil_inv h2
    rw [g1.intV, g2.intV] at h1
    exact ⟨_, rfl, h1⟩
def sp_is_price : Sp := fun vs H Q _ => ∃ x d, vs = [x] ∧ Dq H x d ∧ Q (.bl (isPrice d)) H
theorem ok_is_price (T : Txt K mg) : Z.C0 P w K mg base 3 "is_price" (sp_is_price) := by
  refine T.d_is_price.c0 sc_is_price (fun vs H Q E h => ?_) (Z.bd0 fun _ _ _ _ _ _ us hl => match us, hl with | [_], _ => rfl) (fun f cdv A outer s H vs Q E hr h => ⟨_, (pss_one (ps_ret (pe_and (pe_c0 (ok_is_fraction T) hr (by decide) rfl (pa_cons (pv 0) pa_nil)) (pe_one (pe_cmpR op_gtI (pe_ix (k_ix K) (pv 0) pe_int (fun _ _ => rfl)) pe_int (nomark _)))))), ?_⟩)
  · obtain ⟨x, d, rfl, _⟩ := h
    rfl
  · obtain ⟨x, d, rfl, hd, q⟩ := h
    rw [st_is_price]
    walk_at "st"
    walk_at "rd"
    refine ⟨x, d, rfl, hd, ?_⟩
    cases e : isFrac d with
    | false =>
      walk_at "rd"
      have : isPrice d = false := by
        cases e2 : isPrice d with
        | false => rfl
        | true => rw [price_frac d e2] at e; cases e
      rwa [this] at q
    | true =>
      obtain ⟨t, b, rfl⟩ := frac_ints e
      obtain ⟨a, rfl, ha⟩ := dq_ints2 hd
      have q2 : Q (.bl (isFrac (.tuple [.int t, .int b]) && decide (0 < t))) H := q
      rw [e, Bool.true_and] at q2
      walk_at "rd"
      exact q2
def sp_is_letter : Sp := fun vs H Q _ => ∃ x d, vs = [x] ∧ Dq H x d ∧ Q (.bl (isLetter d)) H
theorem ok_is_letter_tongues (T : Txt K mg) : Z.C0 P w K mg base 1 "is_letter_tongues" (sp_is_letter) := by
  refine T.d_is_letter_tongues.c0 sc_is_letter_tongues (fun vs H Q E h => ?_) (Z.bd0 fun _ _ _ _ _ _ us hl => match us, hl with | [_], _ => rfl) (fun f cdv A outer s H vs Q E hr h => ⟨_, (pss_one (ps_ret (pe_and (pe_callB (k_isi K) rfl T.b_isinstance (by decide +kernel) (pa_cons (pv 0) (pa_cons (pe_bltn (v := .ty "str") rfl T.b_str (by decide +kernel) rfl) pa_nil))) (pe_and (pe_cmpR (k_eqP K hr.units) (pe_callB (k_len K) rfl T.b_len (by decide +kernel) (pa_cons (pv 0) pa_nil)) pe_int (nomark _)) (pe_one (pe_cmpR (k_inP K) (pv 0) (C8.pe_gc rfl T.c_LETTERS_tongues) (by rfl))))))), ?_⟩)
  · obtain ⟨x, d, rfl, _⟩ := h
    rfl
  · obtain ⟨x, d, rfl, hd, q⟩ := h
    rw [st_is_letter_tongues]
    walk_at "st"
    rcases hd.split with ⟨rfl, rfl⟩ | ⟨b, rfl, rfl⟩ | ⟨i, rfl, rfl⟩ | ⟨z, rfl, rfl, hz⟩ | ⟨a, xs, ds, rfl, rfl, h1, h2, hn⟩ | ⟨a, xs, ds, rfl, rfl, h1, h2, hn⟩ | ⟨a, rfl, rfl, h1⟩
    case inr.inr.inr.inl =>
      have el := len_tl z
      have q2 : Q (.bl (decide ((tl z).length = 1) && (tl z).all low)) H := q
      walk_at "rd"
      refine r_ite (fun h1 => ?_) (fun h1 => ?_)
      · have h2 : (tl z).length = 1 := by omega
        obtain ⟨c, hc⟩ := List.length_eq_one_iff.mp h2
        have ez : z = ⟨#[c]⟩ := by
          exact ext_tl (hc.trans rfl)
        rw [decide_eq_true h2, hc] at q2
        subst ez
        walk_at "rd"
        rw [low_mem]
        have e : (true && [c].all low) = low c := by simp
        rw [e] at q2
        exact q2
      · rw [decide_eq_false (by omega)] at q2
        walk_at "rd"
        exact q2
    all_goals
      walk_at "rd"
      exact q
end
end My

namespace My
open PySem PySem.Spec PyProof.Rows L2 Z M SX TL
section
variable {P : Program} {w : World} {K : PySem.W.Frag} {mg : Str → Option Value} {base : Heap}
theorem letter_str {H : Hp} {v : V} {d : PyData} (h : Dq H v d) (e : isLetter d = true) : ∃ c, v = .str (S [c]) ∧ d = .str (S [c]) := by
  rcases h.split with ⟨rfl, rfl⟩ | ⟨b, rfl, rfl⟩ | ⟨i, rfl, rfl⟩ | ⟨z, rfl, rfl, hz⟩ | ⟨a, xs, ds, rfl, rfl, h1, h2, hn⟩ | ⟨a, xs, ds, rfl, rfl, h1, h2, hn⟩ | ⟨a, rfl, rfl, h1⟩
  case inr.inr.inr.inl =>
    have e2 : (decide ((tl z).length = 1) && (tl z).all low) = true := e
    obtain ⟨c, hc⟩ := List.length_eq_one_iff.mp (of_decide_eq_true (Bool.and_eq_true_iff.mp e2).1)
    have ez : z = S [c] := ext_tl (hc.trans rfl)
    exact ⟨c, by rw [ez], by rw [ez]⟩
  all_goals cases e
def sp_is_sign : Sp := fun vs H Q _ => ∃ x d, vs = [x] ∧ Dq H x d ∧ Q (.bl (isSignD d)) H
theorem ok_is_sign (T : Txt K mg) : Z.C0 P w K mg base 4 "is_sign" (sp_is_sign) := by
  refine T.d_is_sign.c0 sc_is_sign (fun vs H Q E h => ?_) (Z.bd0 fun _ _ _ _ _ _ us hl => match us, hl with | [_], _ => rfl) (fun f cdv A outer s H vs Q E hr h => ⟨_, (pss_cons (ps_if (PW.pt (pw_or (pt_not (pt_val (pe_callB (k_isi K) rfl T.b_isinstance (by decide +kernel) (pa_cons (pv 0) (pa_cons (pe_bltn (v := .ty "tuple") rfl T.b_tuple (by decide +kernel) rfl) pa_nil))))) (pw_or1 (pt_cmpR (k_neP K hr.units) (pe_callB (k_len K) rfl T.b_len (by decide +kernel) (pa_cons (pv 0) pa_nil)) pe_int (nomark _)))))
  (pss_one (ps_ret pe_bl)) pss_nil)
  (pss_cons (ps_asg (pv 0) (k_tup (n := 3) K rfl (pgs_cons (pg_name (i := 1) sc_is_sign.nd rfl (Or.inl rfl)) (pgs_cons (pg_name (i := 2) sc_is_sign.nd rfl (Or.inl rfl)) (pgs_cons (pg_name (i := 3) sc_is_sign.nd rfl (Or.inl rfl)) pgs_nil)))))
  (pss_one (ps_ret (pe_and (pe_c0 (ok_is_letter_tongues T) hr (by decide) rfl (pa_cons (pv 1) pa_nil)) (pe_and (pe_c0 (ok_is_price T) hr (by decide) rfl (pa_cons (pv 2) pa_nil)) (pe_one (pe_or (pe_cmpR op_isP (pv 3) pe_non (nomark _)) (pe_one (pe_c0 (ok_is_price T) hr (by decide) rfl (pa_cons (pv 3) pa_nil))))))))))), ?_⟩)
  · obtain ⟨x, d, rfl, _⟩ := h
    rfl
  · obtain ⟨x, d, rfl, hd, q⟩ := h
    rw [st_is_sign]
    walk_at "st"
    rcases hd.split with ⟨rfl, rfl⟩ | ⟨b, rfl, rfl⟩ | ⟨i, rfl, rfl⟩ | ⟨z, rfl, rfl, hz⟩ | ⟨a, xs, ds, rfl, rfl, h1, h2, hn⟩ | ⟨a, xs, ds, rfl, rfl, h1, h2, hn⟩ | ⟨a, rfl, rfl, h1⟩
    case inr.inr.inr.inr.inr.inl =>
      have no : isSignD (.tuple ds) = false → Q (.bl false) H := fun h => by rwa [h] at q
      have hl := h2.length
      walk_at "rd"
      refine r_nite (fun h3 => ?_) (fun h3 => ?_)
      · walk_at "rd"
        refine no ?_
        match ds, hl with
        | [], _ => rfl
        | [_], _ => rfl
        | [_, _], _ => rfl
        | [_, _, _], hl => exact absurd (by rw [hl]; rfl) h3
        | _ :: _ :: _ :: _ :: _, _ => rfl
      · match ds, h2 with
        | [], h2 => exact absurd h3 (by rw [hl]; decide)
        | [_], h2 => exact absurd h3 (by rw [hl]; simp)
        | [_, _], h2 => exact absurd h3 (by rw [hl]; simp)
        | _ :: _ :: _ :: _ :: _, h2 => exact absurd h3 (by rw [hl]; simp; omega)
        | [d1, d2, d3], h2 =>
          obtain ⟨v1, vs1, rfl, g1, h2⟩ := h2.cons_inv
          obtain ⟨v2, vs2, rfl, g2, h2⟩ := h2.cons_inv
          obtain ⟨v3, vs3, rfl, g3, h2⟩ := h2.cons_inv
          obtain rfl := h2.nil_inv
          walk_at "rd"
          refine ⟨v1, d1, rfl, g1, ?_⟩
          have q2 : Q (.bl (isLetter d1 && (isPrice d2 && (isNone d3 || isPrice d3)))) H := q
          cases e1 : isLetter d1 with
          | false =>
            rw [e1] at q2
            walk_at "rd"
            exact q2
          | true =>
            rw [e1] at q2
            walk_at "rd"
            refine ⟨v2, d2, rfl, g2, ?_⟩
            cases e2 : isPrice d2 with
            | false =>
              rw [e2] at q2
              walk_at "rd"
              exact q2
            | true =>
              rw [e2] at q2
              walk_at "rd"
              refine ⟨rfl, ?_⟩
              rw [none_dq g3]
              cases e3 : isNone d3 with
              | true =>
                rw [e3] at q2
                walk_at "rd"
                exact q2
              | false =>
                rw [e3] at q2
                walk_at "rd"
                refine ⟨v3, d3, rfl, g3, ?_⟩
                exact q2
    all_goals
      walk_at "rd"
      exact q
theorem sign_tup {H : Hp} {v : V} {d : PyData} (h : Dq H v d) (e : isSignD d = true) : ∃ T c v2 v3 d2 d3, v = .ref T ∧ H T = some (.tup [.str (S [c]), v2, v3]) ∧ d = .tuple [.str (S [c]), d2, d3] ∧ Dq H v2 d2 ∧ Dq H v3 d3 := by
  rcases h.split with ⟨rfl, rfl⟩ | ⟨b, rfl, rfl⟩ | ⟨i, rfl, rfl⟩ | ⟨z, rfl, rfl, hz⟩ | ⟨a, xs, ds, rfl, rfl, h1, h2, hn⟩ | ⟨a, xs, ds, rfl, rfl, h1, h2, hn⟩ | ⟨a, rfl, rfl, h1⟩
  case inr.inr.inr.inr.inr.inl =>
    match ds, h2 with
    | [], _ => cases e
    | [_], _ => cases e
    | [_, _], _ => cases e
    | _ :: _ :: _ :: _ :: _, _ => cases e
    | [d1, d2, d3], h2 =>
      obtain ⟨v1, vs1, rfl, g1, h2⟩ := h2.cons_inv
      obtain ⟨v2, vs2, rfl, g2, h2⟩ := h2.cons_inv
      obtain ⟨v3, vs3, rfl, g3, h2⟩ := h2.cons_inv
      obtain rfl := h2.nil_inv
      have e2 : (isLetter d1 && (isPrice d2 && (isNone d3 || isPrice d3))) = true := e
      obtain ⟨c, rfl, rfl⟩ := letter_str g1 (Bool.and_eq_true_iff.mp e2).1
      exact ⟨a, c, v2, v3, d2, d3, rfl, h1, rfl, g2, g3⟩
  all_goals cases e
theorem sign_one {H : Hp} {v : V} {d : PyData} (h : Dq H v d) (e : isSignD d = true) : ∃ T v2 v3, v = .ref T ∧ H T = some (.tup [.str (signName d), v2, v3]) := by
  obtain ⟨T, c, v2, v3, d2, d3, h1, h2, rfl, _⟩ := sign_tup h e
  exact ⟨T, v2, v3, h1, h2⟩
theorem all_mapD (l : List PyData) (p : PyData → Bool) : (l.map p).all id = l.all p := by
  rw [List.all_map]
  rfl
def sp_are_signs : Sp := fun vs H Q _ => ∃ x d, vs = [x] ∧ Dq H x d ∧ ∀ H', Same H H' → Q (.bl (areSigns d)) H'
theorem ok_are_signs (T : Txt K mg) : Z.C0 P w K mg base 5 "are_signs" (sp_are_signs) := by
  refine T.d_are_signs.c0 sc_are_signs (fun vs H Q E h => ?_) (Z.bd0 fun _ _ _ _ _ _ us hl => match us, hl with | [_], _ => rfl) (fun f cdv A outer s H vs Q E hr h => ⟨_, (pss_cons (ps_if (PW.pt (pw_or (pt_not (pt_val (pe_callB (k_isi K) rfl T.b_isinstance (by decide +kernel) (pa_cons (pv 0) (pa_cons (pe_bltn (v := .ty "list") rfl T.b_list (by decide +kernel) rfl) pa_nil))))) (pw_or1 (pt_not (pt_chain op_leI op_leI (C8.pe_gc rfl T.c_FEWEST_SIGNS) (pe_callB (k_len K) rfl T.b_len (by decide +kernel) (pa_cons (pv 0) pa_nil)) (C8.pe_gc rfl T.c_MOST_SIGNS))))))
  (pss_one (ps_ret pe_bl)) pss_nil)
  (pss_cons (ps_if (pt_not (pt_val (pe_callB (k_all K rfl) rfl T.b_all (by decide +kernel) (pa_cons (pe_lc (own := [("one", 1)]) rfl sc_are_signs.nd (k_iL K (pv 0)) (blkOk_by (N := ["thing", "one"]) (sc := defScope s_are_signs) (by decide +kernel)) (fun _ _ _ _ _ => (pg_name (i := 1) sc_are_signs.nd rfl (Or.inl rfl))) (fun _ _ _ _ _ => pts_nil) (fun _ _ _ _ _ => (pe_c0 (ok_is_sign T) hr (by decide) rfl (pa_cons (pv 1) pa_nil)))) pa_nil))))
  (pss_one (ps_ret pe_bl)) pss_nil)
  (pss_one (ps_ret (pe_cmpR (k_eqP K hr.units) (pe_lenSetS K rfl rfl T.b_len rfl T.b_set (pe_lc (own := [("one", 1)]) rfl sc_are_signs.nd (k_iL K (pv 0)) (blkOk_by (N := ["thing", "one"]) (sc := defScope s_are_signs) (by decide +kernel)) (fun _ _ _ _ _ => (pg_name (i := 1) sc_are_signs.nd rfl (Or.inl rfl))) (fun _ _ _ _ _ => pts_nil) (fun _ _ _ _ _ => (pe_ix (k_ix K) (pv 1) pe_int (fun _ _ => rfl))))) (pe_callB (k_len K) rfl T.b_len (by decide +kernel) (pa_cons (pv 0) pa_nil)) (nomark _)))))), ?_⟩)
  · obtain ⟨x, d, rfl, _⟩ := h
    rfl
  · obtain ⟨x, d, rfl, hd, q⟩ := h
    rw [st_are_signs]
    walk_at "st"
    rcases hd.split with ⟨rfl, rfl⟩ | ⟨b, rfl, rfl⟩ | ⟨i, rfl, rfl⟩ | ⟨z, rfl, rfl, hz⟩ | ⟨a, xs, ds, rfl, rfl, h1, h2, hn⟩ | ⟨a, xs, ds, rfl, rfl, h1, h2, hn⟩ | ⟨a, rfl, rfl, h1⟩
    case inr.inr.inr.inr.inl =>
      have hl := h2.length
      have out : ∀ H', Same H H' → ¬ (2 ≤ ds.length ∧ ds.length ≤ 6) → Q (.bl false) H' := fun H' e h => by
        have := q H' e
        have e2 : areSigns (.list ds) = (decide (2 ≤ ds.length ∧ ds.length ≤ 6) && (ds.all isSignD && decide ((ds.map signName).Nodup))) := rfl
        rwa [e2, decide_eq_false h] at this
      walk_at "rd"
      refine r_ite (fun h3 => ?_) (fun h3 => ?_)
      · walk_at "rd"
        refine r_nite (fun h4 => ?_) (fun h4 => ?_)
        · walk_at "rd"
          exact out H (Same.refl _) (by omega)
        · have hh : 2 ≤ ds.length ∧ ds.length ≤ 6 := ⟨by omega, by omega⟩
          have q2 : ∀ H', Same H H' → Q (.bl (ds.all isSignD && decide ((ds.map signName).Nodup))) H' := fun H' e => by
            have := q H' e
            have e2 : areSigns (.list ds) = (decide (2 ≤ ds.length ∧ ds.length ≤ 6) && (ds.all isSignD && decide ((ds.map signName).Nodup))) := rfl
            rwa [e2, decide_eq_true hh, Bool.true_and] at this
          walk_at "rd"
          refine lcW (walk_list (xs := xs)) (fun i acc _ => acc = ((ds.take i).map isSignD).map V.bl) rfl (fun _ _ => by walk_at "lk") (fun _ _ => rfl) ?_ ?_
          · rintro i x acc Dl H1 H2 hi hD e1 e2 hl2 rfl y
            obtain ⟨rfl, hx⟩ := y
            have hi2 : i < ds.length := by omega
            obtain rfl : xs[i] = x := Option.some.inj ((List.getElem?_eq_getElem hi).symm.trans hx)
            have gi : Dq H xs[i] ds[i] := h2.get i hi hi2
            walk_at "rd"
            refine ⟨xs[i], ds[i], rfl, by walk_at "lk", ?_⟩
            refine lc_put (by omega) hD e1 e2 hl2 fun H5 _ _ => ?_
            rw [← List.take_append_getElem hi2, List.map_append, List.map_append]
            rfl
          · rintro acc Dl H1 hD e1 e2 rfl
            rw [hl, List.take_length] at e2
            walk_at "rd"
            refine r_all (sqL e2) ?_
            rw [all_mapD]
            cases e : ds.all isSignD with
            | false =>
              rw [e] at q2
              walk_at "rd"
              exact q2 _ e1
            | true =>
              rw [e] at q2
              walk_at "rd"
              refine lcW (walk_list (xs := xs)) (fun i acc _ => acc = ((ds.take i).map signName).map V.str) rfl (fun _ _ => by walk_at "lk") (fun _ _ => rfl) ?_ ?_
              · rintro i x acc Dl H2 H3 hi hD e3 e4 hl2 rfl y
                obtain ⟨rfl, hx⟩ := y
                have hi2 : i < ds.length := by omega
                obtain rfl : xs[i] = x := Option.some.inj ((List.getElem?_eq_getElem hi).symm.trans hx)
                obtain ⟨T, v2, v3, ex, hT⟩ := sign_one (h2.get i hi hi2) (List.all_eq_true.mp e _ (List.getElem_mem hi2))
                rw [ex]
                walk_at "rd"
                refine lc_put (by omega) hD e3 e4 hl2 fun H5 _ _ => ?_
                rw [← List.take_append_getElem hi2, List.map_append, List.map_append]
                rfl
              · rintro acc D2 H2 hD2 e3 e4 rfl
                rw [hl, List.take_length] at e4
                refine ⟨D2, ds.map signName, rfl, sqL e4, by rw [List.length_map]; omega, ?_⟩
                walk_at "rd"
                have hnd := cntS_nd (ds.map signName) (ds.map signName).length (Nat.le_refl _)
                rw [List.take_length] at hnd
                rw [show decide (((cntS (ds.map signName) (ds.map signName).length : Nat) : Int) = ((xs.length : Nat) : Int)) = decide ((ds.map signName).Nodup) by
                  rw [decide_eq_decide, ← hnd, List.length_map, hl]
                  omega]
                exact q2 _ (e1.trans e3)
      · walk_at "rd"
        exact out H (Same.refl _) (by omega)
    all_goals
      walk_at "rd"
      exact q _ (Same.refl _)
end
end My

namespace My
open PySem PySem.Spec PyProof.Rows L2 Z M SX TL
section
variable {P : Program} {w : World} {K : PySem.W.Frag} {mg : Str → Option Value} {base : Heap}
theorem inV_strs (z : Str) (ls : List Str) : inV (.str z) (ls.map V.str) = decide (z ∈ ls) := by
  unfold inV
  rw [Bool.eq_iff_iff, decide_eq_true_iff, List.any_eq_true]
  constructor
  · rintro ⟨v, hv, e⟩
    obtain ⟨y, hy, rfl⟩ := List.mem_map.mp hv
    have : y = z := by simpa [eqV] using e
    exact this ▸ hy
  · intro h
    exact ⟨.str z, List.mem_map.mpr ⟨z, h, rfl⟩, by simp [eqV]⟩
theorem flat_strs (ls : List Str) : (ls.map V.str).all flatV = true := by
  rw [List.all_map]
  exact List.all_eq_true.mpr fun _ _ => rfl
theorem strs_take {H : Hp} {n : Nat} {ls : List Str} : ∀ {xs : List V} {ds : List PyData}, DqAll H xs ds → ∀ i, (ds.take i).all (textOk n ls) = true → xs.take i = ((ds.take i).map strOf).map V.str
  | _, _, .nil, i, _ => by rw [List.take_nil, List.take_nil]; rfl
  | _, _, .cons _ _, 0, _ => rfl
  | _, _, .cons (v := v) (d := d) h r, i + 1, e => by
    rw [List.take_succ_cons, List.all_cons, Bool.and_eq_true_iff] at e
    rw [List.take_succ_cons, List.take_succ_cons, List.map_cons, List.map_cons, ← strs_take r i e.2]
    have : v = V.str (strOf d) := by
      cases h with
      | str z hz => rfl
      | _ => cases e.1
    rw [this]
def sp_unlike (K : PySem.W.Frag) : Sp := fun vs H Q _ => ∃ (x : V) (d : PyData) (n : Nat) (L : Addr) (ls : List Str), vs = [x, .int n, .ref L] ∧ Dq H x d ∧ H L = some (.lst (ls.map V.str)) ∧ ∀ H', Same H H' → Q (.bl (unlikeOk n ls d)) H'
theorem ok_are_unlike_texts (T : Txt K mg) : Z.C0 P w K mg base 1 "are_unlike_texts" (sp_unlike K) := by
  refine T.d_are_unlike_texts.c0 sc_are_unlike_texts (fun vs H Q E h => ?_) (Z.bd0 fun _ _ _ _ _ _ us hl => match us, hl with | [_, _, _], _ => rfl) (fun f cdv A outer s H vs Q E hr h => ⟨_, (pss_cons (ps_if (pt_not (pt_val (pe_callB (k_isi K) rfl T.b_isinstance (by decide +kernel) (pa_cons (pv 0) (pa_cons (pe_bltn (v := .ty "list") rfl T.b_list (by decide +kernel) rfl) pa_nil)))))
  (pss_one (ps_ret pe_bl)) pss_nil)
  (pss_cons (ps_for PassesOwn.never rfl (k_iE K (by rfl) T.b_enumerate (pa_cons (pv 0) pa_nil)) (k_tup (n := 2) K rfl (pgs_cons (pg_name (i := 3) sc_are_unlike_texts.nd rfl (Or.inl rfl)) (pgs_cons (pg_name (i := 4) sc_are_unlike_texts.nd rfl (Or.inl rfl)) pgs_nil)))
  (pss_cons (ps_if (PW.pt (pw_or (pt_not (pt_val (pe_callB (k_isi K) rfl T.b_isinstance (by decide +kernel) (pa_cons (pv 4) (pa_cons (pe_bltn (v := .ty "str") rfl T.b_str (by decide +kernel) rfl) pa_nil))))) (pw_or (pt_cmpR (k_neP K hr.units) (pe_callB (k_len K) rfl T.b_len (by decide +kernel) (pa_cons (pv 4) pa_nil)) (pv 1) (nomark _)) (pw_or1 (pt_cmpR (k_inP K) (pv 4) (pe_slice (k_sl K) (pv 0) po_none (po_some (pv 3))) (by rfl))))))
  (pss_one (ps_ret pe_bl)) pss_nil)
  (pss_one (ps_if (pt_not (pt_val (pe_callB (k_all K rfl) rfl T.b_all (by decide +kernel) (pa_cons (pe_lc (own := [("sign", 5)]) rfl sc_are_unlike_texts.nd (pi_str (pv 4)) (blkOk_by (N := ["thing", "size", "letters", "at", "one", "sign"]) (sc := defScope s_are_unlike_texts) (by decide +kernel)) (fun _ _ _ _ _ => (pg_name (i := 5) sc_are_unlike_texts.nd rfl (Or.inl rfl))) (fun _ _ _ _ _ => pts_nil) (fun _ _ _ _ _ => (pe_cmpR (k_inP K) (pv 5) (pv 2) (by rfl)))) pa_nil))))
  (pss_one (ps_ret pe_bl)) pss_nil))))
  (pss_one (ps_ret pe_bl)))), ?_⟩)
  · obtain ⟨x, d, n, L, ls, rfl, _⟩ := h
    rfl
  · obtain ⟨x, d, n, L, ls, rfl, hd, hL, q⟩ := h
    rw [st_are_unlike_texts]
    walk_at "st"
    rcases hd.split with ⟨rfl, rfl⟩ | ⟨b, rfl, rfl⟩ | ⟨i, rfl, rfl⟩ | ⟨z, rfl, rfl, hz⟩ | ⟨a, xs, ds, rfl, rfl, h1, h2, hn⟩ | ⟨a, xs, ds, rfl, rfl, h1, h2, hn⟩ | ⟨a, rfl, rfl, h1⟩
    case inr.inr.inr.inr.inl =>
      have hl := h2.length
      have eu : unlikeOk n ls (.list ds) = (ds.all (textOk n ls) && decide ((ds.map strOf).Nodup)) := rfl
      rw [eu] at q
      walk_at "rd"
      refine forW (walk_enum (xs := xs)) (fun i σ H2 => ∃ (z3 z4 : Option V), σ = [some (.ref a), some (.int n), some (.ref L), z3, z4, none] ∧ Same H H2 ∧ (ds.take i).all (textOk n ls) = true ∧ ((ds.take i).map strOf).Nodup) ⟨none, none, rfl, Same.refl _, rfl, List.nodup_nil⟩ (fun i σ H2 _ ⟨_, _, _, e, _⟩ => by walk_at "lk") ?_ ?_
      · rintro i x σ H2 H3 hi ⟨z3, z4, rfl, e2, ht, hnd⟩ y
        obtain ⟨T1, x1, x2, rfl, hT, rfl, hx1, hx2⟩ := y
        have e3 : Same H2 (upd H2 T1 (.tup [x1, x2])) := Same.new hT
        have f3 : (upd H2 T1 (.tup [x1, x2])) T1 = some (.tup [x1, x2]) := upd_same
        revert e3 f3
        generalize upd H2 T1 (.tup [x1, x2]) = H3
        intro e3 f3
        obtain rfl : V.int (i : Nat) = x1 := Option.some.inj hx1
        have hi2 : i < ds.length := by omega
        obtain rfl : xs[i] = x2 := Option.some.inj ((List.getElem?_eq_getElem hi).symm.trans hx2)
        have gi : Dq H xs[i] ds[i] := h2.get i hi hi2
        have es : Same H H3 := e2.trans e3
        have hx : xs.take i = ((ds.take i).map strOf).map V.str := strs_take h2 i ht
        have tk : ds.take (i + 1) = ds.take i ++ [ds[i]] := (List.take_append_getElem hi2).symm
        have bad : ∀ H', Same H H' → textOk n ls ds[i] = false → Q (.bl false) H' := fun H' e h => by
          have := q H' e
          have e2 : ds.all (textOk n ls) = false := by
            rw [Bool.eq_false_iff]
            intro z
            rw [List.all_eq_true.mp z _ (List.getElem_mem hi2)] at h
            cases h
          rwa [e2] at this
        walk_at "rd"
        have hdi := gi
        revert hdi
        generalize xs[i] = v
        generalize hde : ds[i] = de
        intro hdi
        rcases hdi.split with ⟨rfl, rfl⟩ | ⟨b, rfl, rfl⟩ | ⟨j, rfl, rfl⟩ | ⟨z, rfl, rfl, hz⟩ | ⟨b, ys, qs, rfl, rfl, k1, k2, kn⟩ | ⟨b, ys, qs, rfl, rfl, k1, k2, kn⟩ | ⟨b, rfl, rfl, k1⟩
        case inr.inr.inr.inl =>
          have el := len_tl z
          have et : textOk n ls (.str z) = (decide (z.length = n) && (tl z).all fun c => decide (S [c] ∈ ls)) := rfl
          refine r_bF rfl ?_
          walk_at "rd"
          refine r_nite (fun h3 => ?_) (fun h3 => ?_)
          · walk_at "rd"
            refine bad _ es ?_
            rw [hde, et, decide_eq_false (p := z.length = n) (by omega)]
            rfl
          · have h3' : z.length = n := by omega
            walk_at "rd"
            intro l4 H4 hl4 e4 f4
            rw [cut_to xs i, hx] at f4
            walk_at "rd"
            refine r_inL (xs := ((ds.take i).map strOf).map V.str) (sqL f4) ?_ rfl (flat_strs _)
            rw [inV_strs]
            walk_at "rd"
            refine r_ite (fun h5 => ?_) (fun h5 => ?_)
            · walk_at "rd"
              have := q H4 (es.trans e4)
              rw [decide_eq_false (p := (ds.map strOf).Nodup) (fun hh => ?_), Bool.and_false] at this
              · exact this
              · have h6 : (ds.take (i + 1)).map strOf = (ds.take i).map strOf ++ [z] := by
                  rw [tk, List.map_append, hde]
                  rfl
                have h7 : ((ds.take (i + 1)).map strOf).Nodup := hh.sublist (List.Sublist.map _ (List.take_sublist _ _))
                rw [h6, List.nodup_append] at h7
                exact h7.2.2 _ h5 _ List.mem_cons_self rfl
            · walk_at "rd"
              refine lcW walk_str (fun k acc _ => acc = (((tl z).take k).map fun c => decide (S [c] ∈ ls)).map V.bl) rfl (fun _ _ => trivial) (fun _ _ => rfl) ?_ ?_
              · rintro k x acc Dl _ G1 hk hD e5 e6 hl2 rfl ⟨rfl, c, hc, rfl⟩
                have hc2 : (tl z)[k]? = some c := by simpa [tl] using hc
                have hL2 : G1 L = some (.lst (ls.map V.str)) := e5 _ _ (e4 _ _ (es _ _ hL))
                walk_at "rd"
                refine r_inL (xs := ls.map V.str) (sqL hL2) ?_ rfl (flat_strs _)
                rw [inV_strs]
                refine lc_put (by have := (List.getElem?_eq_some_iff.mp hc2).1; omega) hD e5 e6 hl2 fun H5 _ _ => ?_
                rw [List.take_add_one, hc2]
                simp
              · rintro acc Dl G1 hD e5 e6 rfl
                have en : z.cps.size = (tl z).length := by simp [tl]
                rw [en, List.take_length] at e6
                have eg : Same H G1 := es.trans (e4.trans e5)
                clear e4
                walk_at "rd"
                refine r_all (sqL e6) ?_
                rw [show (((tl z).map fun c => decide (S [c] ∈ ls)).all id) = (tl z).all fun c => decide (S [c] ∈ ls) by rw [List.all_map]; rfl]
                cases hal : (tl z).all fun c => decide (S [c] ∈ ls) with
                | false =>
                  walk_at "rd"
                  refine bad _ eg ?_
                  rw [hde, et, hal, Bool.and_false]
                | true =>
                  walk_at "rd"
                  refine ⟨_, _, rfl, eg, ?_, ?_⟩
                  · rw [tk, List.all_append, ht, hde, List.all_cons, et, decide_eq_true h3', hal]
                    rfl
                  · rw [tk, List.map_append, hde, List.nodup_append]
                    refine ⟨hnd, List.pairwise_singleton _ _, fun a ha b hb => ?_⟩
                    have : b = z := List.mem_singleton.mp hb
                    subst this
                    exact fun e => h5 (e ▸ ha)
        all_goals
          refine r_bT rfl ?_
          walk_at "rd"
          exact bad _ es (by rw [hde]; rfl)
      · rintro σ H2 ⟨z3, z4, rfl, e2, ht, hnd⟩
        walk_at "rd"
        have := q H2 e2
        rw [hl, List.take_length] at ht hnd
        rwa [ht, decide_eq_true hnd] at this
    all_goals
      walk_at "rd"
      exact q _ (Same.refl _)
def tongueQ (K : PySem.W.Frag) (r : Option V) (H : Hp) (Q : VK) (E : XK) : Prop := match r with
  | none => ∀ H', Same H H' → Q .non H'
  | some y => rais K "NoTongue" "part" y H E
def sp_look_tongue (K : PySem.W.Frag) : Sp := fun vs H Q E => ∃ x d, vs = [x] ∧ Dq H x d ∧ tongueQ K (tongueErr d) H Q E
theorem signs_list {H : Hp} {v : V} {d : PyData} (h : Dq H v d) (e : areSigns d = true) : ∃ (a : Addr) (xs : List V) (ds : List PyData), v = .ref a ∧ d = .list ds ∧ H a = some (.lst xs) ∧ DqAll H xs ds ∧ ds.all isSignD = true ∧ 2 ≤ ds.length ∧ ds.length ≤ 6 ∧ (ds.map signName).Nodup := by
  rcases h.split with ⟨rfl, rfl⟩ | ⟨b, rfl, rfl⟩ | ⟨i, rfl, rfl⟩ | ⟨z, rfl, rfl, hz⟩ | ⟨a, xs, ds, rfl, rfl, h1, h2, hn⟩ | ⟨a, xs, ds, rfl, rfl, h1, h2, hn⟩ | ⟨a, rfl, rfl, h1⟩
  case inr.inr.inr.inr.inl =>
    have e2 : (decide (2 ≤ ds.length ∧ ds.length ≤ 6) && (ds.all isSignD && decide ((ds.map signName).Nodup))) = true := e
    rw [Bool.and_eq_true_iff, Bool.and_eq_true_iff, decide_eq_true_iff, decide_eq_true_iff] at e2
    exact ⟨a, xs, ds, rfl, rfl, h1, h2, e2.2.1, e2.1.1, e2.1.2, e2.2.2⟩
  all_goals cases e
theorem oki_NoTongue (T : Txt K mg) : Z.Oi P w K mg base "NoTongue" "part" := by
  refine T.i_NoTongue.oi sci_NoTongue (fun _ _ _ _ _ _ us hl => match us, hl with | [_, _], _ => rfl) (fun cdv A outer s H vs Q E hr h => ⟨_, (pss_cons (ps_expr (pe_dearI rfl T.k_DearError T.ex.d (pa_cons (pv 0) (pa_cons (pe_joined (PJ.cons pe_str (PJ.cons (pe_fmtN (pv 1)) PJ.nil))) pa_nil))))
  (pss_one (ps_ost (pv 0) (pv 1)))), ?_⟩)
  obtain ⟨a, y, rfl, ha, hf, q⟩ := h
  rw [sti_NoTongue]
  walk_at "st"
  walk_at "rd"
  refine r_fmtNV hf (fun z hz => ?_)
  refine r_jsV (by decide) hz (fun z => ?_)
  walk_at "rd"
  refine ⟨a, _, _, rfl, by simp, (T.ex.i ("NoTongue", "part") (by simp)).oe, ha, ?_⟩
  walk_at "rd"
  exact ⟨a, _, rfl, (T.ex.i ("NoTongue", "part") (by simp)).oe, (T.ex.i ("NoTongue", "part") (by simp)).no, Or.inl ⟨ha, fun d h1 h2 => q d h1 h2⟩⟩
theorem ok_look_at_tongue (T : Txt K mg) : Z.CE P w K mg base 6 "look_at_tongue" (sp_look_tongue K) := by
  refine T.d_look_at_tongue.ce sc_look_at_tongue (fun vs H Q E h => ?_) (Z.bd0 fun _ _ _ _ _ _ us hl => match us, hl with | [_], _ => rfl) (fun f cdv A outer s H vs Q E hr h => ⟨_, (pss_cons (ps_if (PW.pt (pw_or (pt_not (pt_val (pe_callB (k_isi K) rfl T.b_isinstance (by decide +kernel) (pa_cons (pv 0) (pa_cons (pe_bltn (v := .ty "tuple") rfl T.b_tuple (by decide +kernel) rfl) pa_nil))))) (pw_or1 (pt_cmpR (k_neP K hr.units) (pe_callB (k_len K) rfl T.b_len (by decide +kernel) (pa_cons (pv 0) pa_nil)) pe_int (nomark _)))))
  (pss_one (ps_raiO K rfl (takes_of rfl rfl rfl rfl) (T.ex.i ("NoTongue", "part") (by simp)) (oki_NoTongue T) hr (by decide) rfl (pa_cons pe_non pa_nil))) pss_nil)
  (pss_cons (ps_asg (pv 0) (k_tup (n := 4) K rfl (pgs_cons (pg_name (i := 1) sc_look_at_tongue.nd rfl (Or.inl rfl)) (pgs_cons (pg_name (i := 2) sc_look_at_tongue.nd rfl (Or.inl rfl)) (pgs_cons (pg_name (i := 3) sc_look_at_tongue.nd rfl (Or.inl rfl)) (pgs_cons (pg_name (i := 4) sc_look_at_tongue.nd rfl (Or.inl rfl)) pgs_nil))))))
  (pss_cons (ps_if (pt_not (pt_val (pe_c0 (ok_are_signs T) hr (by decide) rfl (pa_cons (pv 1) pa_nil))))
  (pss_one (ps_raiO K rfl (takes_of rfl rfl rfl rfl) (T.ex.i ("NoTongue", "part") (by simp)) (oki_NoTongue T) hr (by decide) rfl (pa_cons pe_str pa_nil))) pss_nil)
  (pss_cons (ps_setLc (i := 5) (own := [("one", 6)]) rfl sc_look_at_tongue.nd rfl rfl (sw_true rfl rfl rfl (by decide +kernel)) (k_iL K (pv 1)) (blkOk_by (N := ["thing", "signs", "firsts", "pairs", "longest", "letters", "one"]) (sc := defScope s_look_at_tongue) (by decide +kernel)) (fun _ _ _ _ _ => (pg_name (i := 6) sc_look_at_tongue.nd rfl (Or.inl rfl))) (fun _ _ _ _ _ => pts_nil) (fun _ _ _ _ _ => (pe_ix (k_ix K) (pv 6) pe_int (fun _ _ => rfl))))
  (pss_cons (ps_if (pt_not (pt_val (pe_c0 (ok_are_unlike_texts T) hr (by decide) rfl (pa_cons (pv 2) (pa_cons pe_int (pa_cons (pv 5) pa_nil))))))
  (pss_one (ps_raiO K rfl (takes_of rfl rfl rfl rfl) (T.ex.i ("NoTongue", "part") (by simp)) (oki_NoTongue T) hr (by decide) rfl (pa_cons pe_str pa_nil))) pss_nil)
  (pss_cons (ps_if (pt_not (pt_val (pe_c0 (ok_are_unlike_texts T) hr (by decide) rfl (pa_cons (pv 3) (pa_cons pe_int (pa_cons (pv 5) pa_nil))))))
  (pss_one (ps_raiO K rfl (takes_of rfl rfl rfl rfl) (T.ex.i ("NoTongue", "part") (by simp)) (oki_NoTongue T) hr (by decide) rfl (pa_cons pe_str pa_nil))) pss_nil)
  (pss_one (ps_if (PW.pt (pw_or (pt_not (pt_val (pe_c0 (ok_is_whole T) hr (by decide) rfl (pa_cons (pv 4) pa_nil)))) (pw_or1 (pt_not (pt_chain op_leI op_leI pe_int (pv 4) (C8.pe_gc rfl T.c_LONGEST))))))
  (pss_one (ps_raiO K rfl (takes_of rfl rfl rfl rfl) (T.ex.i ("NoTongue", "part") (by simp)) (oki_NoTongue T) hr (by decide) rfl (pa_cons pe_str pa_nil))) pss_nil)))))))), ?_⟩)
  · obtain ⟨x, d, rfl, _⟩ := h
    rfl
  · obtain ⟨x, d, rfl, hd, q⟩ := h
    rw [st_look_at_tongue]
    walk_at "st"
    have bad : ∀ d, tongueErr d = some .non → tongueQ K (tongueErr d) H Q E → rais K "NoTongue" "part" .non H E := fun d e h => by
      rw [e] at h
      exact h
    rcases hd.split with ⟨rfl, rfl⟩ | ⟨b, rfl, rfl⟩ | ⟨i, rfl, rfl⟩ | ⟨z, rfl, rfl, hz⟩ | ⟨a, xs, ds, rfl, rfl, h1, h2, hn⟩ | ⟨a, xs, ds, rfl, rfl, h1, h2, hn⟩ | ⟨a, rfl, rfl, h1⟩
    case inr.inr.inr.inr.inr.inl =>
      have hl := h2.length
      walk_at "rd"
      refine r_nite (fun h3 => ?_) (fun h3 => ?_)
      · walk_at "rd"
        refine r_raiE (.inl rfl) (fun d hd => ?_)
        have : tongueErr (.tuple ds) = some .non := by
          match ds, hl with
          | [], _ => rfl
          | [_], _ => rfl
          | [_, _], _ => rfl
          | [_, _, _], _ => rfl
          | [_, _, _, _], hl => exact absurd (by rw [hl]; rfl) h3
          | _ :: _ :: _ :: _ :: _ :: _, _ => rfl
        exact bad _ this q d _ hd (Same.new hd) upd_same
      · match ds, h2 with
        | [], h2 => exact absurd h3 (by rw [hl]; decide)
        | [_], h2 => exact absurd h3 (by rw [hl]; simp)
        | [_, _], h2 => exact absurd h3 (by rw [hl]; simp)
        | [_, _, _], h2 => exact absurd h3 (by rw [hl]; simp)
        | _ :: _ :: _ :: _ :: _ :: _, h2 => exact absurd h3 (by rw [hl]; simp; omega)
        | [d1, d2, d3, d4], h2 =>
          obtain ⟨v1, vs1, rfl, g1, h2⟩ := h2.cons_inv
          obtain ⟨v2, vs2, rfl, g2, h2⟩ := h2.cons_inv
          obtain ⟨v3, vs3, rfl, g3, h2⟩ := h2.cons_inv
          obtain ⟨v4, vs4, rfl, g4, h2⟩ := h2.cons_inv
          obtain rfl := h2.nil_inv
          have et : tongueErr (.tuple [d1, d2, d3, d4]) = if areSigns d1 = false then some (.str "signs") else if unlikeOk 1 (lettersOf d1) d2 = false then some (.str "firsts") else if unlikeOk 2 (lettersOf d1) d3 = false then some (.str "pairs") else if longOk d4 = false then some (.str "longest") else none := rfl
          rw [et] at q
          walk_at "rd"
          refine ⟨v1, d1, rfl, g1, fun H1 e1 => ?_⟩
          cases k1 : areSigns d1 with
          | false =>
            rw [k1, if_pos rfl] at q
            walk_at "rd"
            refine r_raiE (.inr (.inl ⟨_, rfl, by decide +kernel⟩)) (fun d hd => ?_)
            exact q d _ (Z.fr hd e1) (e1.trans (Same.new hd)) upd_same
          | true =>
            rw [k1, if_neg (by decide)] at q
            obtain ⟨a1, ys, es, rfl, rfl, y1, y2, y3, y4, y5, y6⟩ := signs_list g1 k1
            have yl := y2.length
            have q : tongueQ K (if unlikeOk 1 (es.map signName) d2 = false then some (.str "firsts") else if unlikeOk 2 (es.map signName) d3 = false then some (.str "pairs") else if longOk d4 = false then some (.str "longest") else none) H Q E := q
            walk_at "rd"
            refine lcW (walk_list (xs := ys)) (fun i acc _ => acc = ((es.take i).map signName).map V.str) rfl (fun _ _ => by walk_at "lk") (fun _ _ => rfl) ?_ ?_
            · rintro i x acc Dl H2 H3 hi hD e3 e4 hl2 rfl y
              obtain ⟨rfl, hx⟩ := y
              have hi2 : i < es.length := by omega
              obtain rfl : ys[i] = x := Option.some.inj ((List.getElem?_eq_getElem hi).symm.trans hx)
              obtain ⟨T, v2, v3, ex, hT⟩ := sign_one (y2.get i hi hi2) (List.all_eq_true.mp y3 _ (List.getElem_mem hi2))
              rw [ex]
              walk_at "rd"
              refine lc_put (by omega) hD e3 e4 hl2 fun H5 _ _ => ?_
              rw [← List.take_append_getElem hi2, List.map_append, List.map_append]
              rfl
            rintro acc D2 H2 hD2 e3 e4 rfl
            rw [yl, List.take_length] at e4
            walk_at "rd"
            refine ⟨v2, d2, 1, D2, es.map signName, rfl, by walk_at "lk", e4, fun H3 e5 => ?_⟩
            cases k2 : unlikeOk 1 (es.map signName) d2 with
            | false =>
              rw [k2, if_pos rfl] at q
              walk_at "rd"
              refine r_raiE (.inr (.inl ⟨_, rfl, by decide +kernel⟩)) (fun d hd => ?_)
              have ee := e1.trans (e3.trans e5)
              exact q d _ (Z.fr hd ee) (ee.trans (Same.new hd)) upd_same
            | true =>
              rw [k2, if_neg (by decide)] at q
              walk_at "rd"
              refine ⟨v3, d3, 2, D2, es.map signName, rfl, by walk_at "lk", by walk_at "lk", fun H4 e6 => ?_⟩
              cases k3 : unlikeOk 2 (es.map signName) d3 with
              | false =>
                rw [k3, if_pos rfl] at q
                walk_at "rd"
                refine r_raiE (.inr (.inl ⟨_, rfl, by decide +kernel⟩)) (fun d hd => ?_)
                have ee := e1.trans (e3.trans (e5.trans e6))
                exact q d _ (Z.fr hd ee) (ee.trans (Same.new hd)) upd_same
              | true =>
                rw [k3, if_neg (by decide)] at q
                walk_at "rd"
                refine ⟨v4, d4, rfl, by walk_at "lk", ?_⟩
                have ee := e1.trans (e3.trans (e5.trans e6))
                have rb : longOk d4 = false → rais K "NoTongue" "part" (.str "longest") H E := fun h => by
                  rw [h, if_pos rfl] at q
                  exact q
                rcases g4.split with ⟨rfl, rfl⟩ | ⟨b, rfl, rfl⟩ | ⟨i, rfl, rfl⟩ | ⟨z, rfl, rfl, hz⟩ | ⟨a, xs, ds, rfl, rfl, h1, h2, hn⟩ | ⟨a, xs, ds, rfl, rfl, h1, h2, hn⟩ | ⟨a, rfl, rfl, h1⟩
                case inr.inr.inl =>
                  have el : longOk (.int i) = (decide (1 ≤ i) && decide (i ≤ 8)) := rfl
                  dsimp only [isWhole]
                  walk_at "rd"
                  refine r_ite (fun h4 => ?_) (fun h4 => ?_)
                  · walk_at "rd"
                    refine r_nite (fun h5 => ?_) (fun h5 => ?_)
                    · walk_at "rd"
                      refine r_raiE (.inr (.inl ⟨_, rfl, by decide +kernel⟩)) (fun d hd => ?_)
                      exact rb (by rw [el, decide_eq_false (p := i ≤ 8) (by omega), Bool.and_false]) d _ (Z.fr hd ee) (ee.trans (Same.new hd)) upd_same
                    · rw [el, decide_eq_true (p := 1 ≤ i) (by omega), decide_eq_true (p := i ≤ 8) (by omega), if_neg (by decide)] at q
                      walk_at "rd"
                      exact q _ ee
                  · walk_at "rd"
                    refine r_raiE (.inr (.inl ⟨_, rfl, by decide +kernel⟩)) (fun d hd => ?_)
                    exact rb (by rw [el, decide_eq_false (p := 1 ≤ i) (by omega)]; rfl) d _ (Z.fr hd ee) (ee.trans (Same.new hd)) upd_same
                all_goals
                  dsimp only [isWhole]
                  walk_at "rd"
                  refine r_raiE (.inr (.inl ⟨_, rfl, by decide +kernel⟩)) (fun d hd => ?_)
                  exact rb rfl d _ (Z.fr hd ee) (ee.trans (Same.new hd)) upd_same
    all_goals
      walk_at "rd"
      refine r_raiE (.inl rfl) (fun d hd => ?_)
      exact bad _ rfl q d _ hd (Same.new hd) upd_same
end
end My

namespace My
open PySem PySem.Spec PyProof.Rows L2 Z M SX TL
section
variable {P : Program} {w : World} {K : PySem.W.Frag} {mg : Str → Option Value} {base : Heap}
/-! ### tongues that can be -/
structure Sg where
  c : Nat
  p : Nat × Nat
  l : Option (Nat × Nat)
structure Tg where
  sg : List Sg
  fi : List Str
  pa : List Str
  lo : Nat
def fracD (p : Nat × Nat) : PyData := .tuple [.int (p.1 : Nat), .int (p.2 : Nat)]
def lastD : Option (Nat × Nat) → PyData
  | none => .none
  | some p => fracD p
def sgD (s : Sg) : PyData := .tuple [.str (S [s.c]), fracD s.p, lastD s.l]
def strsD (l : List Str) : PyData := .list (l.map PyData.str)
def tgD (t : Tg) : PyData := .tuple [.list (t.sg.map sgD), strsD t.fi, strsD t.pa, .int (t.lo : Nat)]
def lettersT (t : Tg) : List Str := t.sg.map fun s => S [s.c]
structure FrOk (p : Nat × Nat) : Prop where
  t1 : 1 ≤ p.1
  b1 : 1 ≤ p.2
  g : Nat.gcd p.2 p.1 = 1
  t2 : p.1 < 10 ^ 18
  b2 : p.2 < 10 ^ 18
structure SgOk (s : Sg) : Prop where
  c : low s.c = true
  p : FrOk s.p
  l : ∀ p, s.l = some p → FrOk p
structure TgOk (t : Tg) : Prop where
  n1 : 2 ≤ t.sg.length
  n2 : t.sg.length ≤ 6
  sg : ∀ s ∈ t.sg, SgOk s
  nd : (t.sg.map Sg.c).Nodup
  f1 : ∀ z ∈ t.fi, z ∈ lettersT t
  f2 : t.fi.Nodup
  p1 : ∀ z ∈ t.pa, ∃ a b, z = S [a, b] ∧ S [a] ∈ lettersT t ∧ S [b] ∈ lettersT t
  p2 : t.pa.Nodup
  l1 : 1 ≤ t.lo
  l2 : t.lo ≤ 8
theorem fr_price {p : Nat × Nat} (h : FrOk p) : isPrice (fracD p) = true := by
  show ((decide (1 ≤ ((p.2 : Nat) : Int)) && decide (Nat.gcd ((p.2 : Nat) : Int).toNat ((p.1 : Nat) : Int).natAbs = 1)) && decide (0 < ((p.1 : Nat) : Int))) = true
  have := h.t1
  have := h.b1
  simp only [Bool.and_eq_true, decide_eq_true_eq]
  refine ⟨⟨by omega, ?_⟩, by omega⟩
  rw [Int.toNat_natCast, Int.natAbs_natCast]
  exact h.g
theorem sg_ok {s : Sg} (h : SgOk s) : isSignD (sgD s) = true := by
  show (isLetter (.str (S [s.c])) && (isPrice (fracD s.p) && (isNone (lastD s.l) || isPrice (lastD s.l)))) = true
  rw [fr_price h.p]
  have e1 : isLetter (.str (S [s.c])) = true := by
    show (decide ((tl (S [s.c])).length = 1) && (tl (S [s.c])).all low) = true
    rw [show tl (S [s.c]) = [s.c] from rfl, List.all_cons, h.c]
    rfl
  rw [e1]
  cases e : s.l with
  | none => rfl
  | some p =>
    show (true && (true && (_ || isPrice (fracD p)))) = true
    rw [fr_price (h.l p e), Bool.or_true]
    rfl
theorem S1_inj {a b : Nat} (h : S [a] = S [b]) : a = b := (List.cons.inj (SX.S_inj h)).1
theorem strOf_map (l : List Str) : (l.map PyData.str).map strOf = l := by
  rw [List.map_map]
  exact List.map_id l
theorem sgName_map (l : List Sg) : (l.map sgD).map signName = l.map fun s => S [s.c] := by
  rw [List.map_map]
  rfl
theorem unlike_ok {n : Nat} {ls l : List Str} (h1 : ∀ z ∈ l, z.length = n ∧ ∀ c ∈ tl z, S [c] ∈ ls) (h2 : l.Nodup) : unlikeOk n ls (strsD l) = true := by
  show (((l.map PyData.str).all (textOk n ls)) && decide (((l.map PyData.str).map strOf).Nodup)) = true
  rw [strOf_map, decide_eq_true h2, Bool.and_true, List.all_map]
  refine List.all_eq_true.mpr fun z hz => ?_
  obtain ⟨q1, q2⟩ := h1 z hz
  show (decide (z.length = n) && (tl z).all fun c => decide (S [c] ∈ ls)) = true
  rw [decide_eq_true q1, Bool.true_and]
  exact List.all_eq_true.mpr fun c hc => decide_eq_true (q2 c hc)
theorem letter_chars {t : Tg} {z : Str} (h : z ∈ lettersT t) : ∃ c, z = S [c] := by
  obtain ⟨s, _, rfl⟩ := List.mem_map.mp h
  exact ⟨s.c, rfl⟩
theorem tgErr_ok {t : Tg} (h : TgOk t) : tongueErr (tgD t) = none := by
  have e1 : areSigns (.list (t.sg.map sgD)) = true := by
    show (decide (2 ≤ (t.sg.map sgD).length ∧ (t.sg.map sgD).length ≤ 6) && ((t.sg.map sgD).all isSignD && decide (((t.sg.map sgD).map signName).Nodup))) = true
    have n1 := h.n1
    have n2 := h.n2
    rw [decide_eq_true (by rw [List.length_map]; exact ⟨n1, n2⟩), sgName_map, decide_eq_true, Bool.and_true, Bool.true_and, List.all_map]
    · exact List.all_eq_true.mpr fun s hs => sg_ok (h.sg s hs)
    · have := h.nd
      refine List.pairwise_map.mpr ?_
      exact (List.pairwise_map.mp this).imp fun {a b} q e => q (S1_inj e)
  have el : lettersOf (.list (t.sg.map sgD)) = lettersT t := sgName_map t.sg
  have e2 : unlikeOk 1 (lettersT t) (strsD t.fi) = true := unlike_ok (fun z hz => by
    have hz2 := h.f1 z hz
    obtain ⟨c, rfl⟩ := letter_chars hz2
    refine ⟨rfl, fun d hd => ?_⟩
    have : d = c := List.mem_singleton.mp hd
    exact this ▸ hz2) h.f2
  have e3 : unlikeOk 2 (lettersT t) (strsD t.pa) = true := unlike_ok (fun z hz => by
    obtain ⟨a, b, rfl, ha, hb⟩ := h.p1 z hz
    refine ⟨rfl, fun d hd => ?_⟩
    have hd2 : d ∈ [a, b] := hd
    simp only [List.mem_cons, List.not_mem_nil, or_false] at hd2
    rcases hd2 with rfl | rfl
    · exact ha
    · exact hb) h.p2
  have e4 : longOk (.int (t.lo : Nat)) = true := by
    show (decide (1 ≤ ((t.lo : Nat) : Int)) && decide (((t.lo : Nat) : Int) ≤ 8)) = true
    have := h.l1
    have := h.l2
    rw [decide_eq_true (by omega), decide_eq_true (by omega)]
    rfl
  show (if areSigns (.list (t.sg.map sgD)) = false then _ else if unlikeOk 1 (lettersOf (.list (t.sg.map sgD))) (strsD t.fi) = false then _ else if unlikeOk 2 (lettersOf (.list (t.sg.map sgD))) (strsD t.pa) = false then _ else if longOk (.int (t.lo : Nat)) = false then _ else none) = none
  rw [el, e1, e2, e3, e4]
  rfl
theorem frac_lay (p : Nat × Nat) : PyData.canLay0 (fracD p) = true ∧ PyData.depth (fracD p) ≤ 2 := ⟨rfl, by simp [fracD, PyData.depth, PyData.depthAll]⟩
theorem last_lay (l : Option (Nat × Nat)) : PyData.canLay0 (lastD l) = true ∧ PyData.depth (lastD l) ≤ 2 := by
  cases l with
  | none => exact ⟨rfl, by simp [lastD, PyData.depth]⟩
  | some p => exact frac_lay p
theorem low_str {c : Nat} (h : low c = true) : PyData.strOk (S [c]) = true := strOk_low (by rw [show tl (S [c]) = [c] from rfl, List.all_cons, h]; rfl)
theorem sgs_lay : ∀ l : List Sg, (∀ s ∈ l, low s.c = true) → PyData.canLayAll0 (l.map sgD) = true ∧ PyData.depthAll (l.map sgD) ≤ 5
  | [], _ => ⟨rfl, by show PyData.depthAll [] ≤ 5; decide⟩
  | s :: l, h => by
    obtain ⟨h1, h2⟩ := sgs_lay l fun s hs => h s (List.mem_cons_of_mem _ hs)
    obtain ⟨f1, f2⟩ := frac_lay s.p
    obtain ⟨g1, g2⟩ := last_lay s.l
    rw [List.map_cons, PyData.canLayAll0, PyData.depthAll, h1]
    constructor
    · show (PyData.canLay0 (.tuple [.str (S [s.c]), fracD s.p, lastD s.l]) && true) = true
      rw [PyData.canLay0, PyData.canLayAll0, PyData.canLayAll0, PyData.canLayAll0, f1, g1, PyData.canLay0, low_str (h s List.mem_cons_self)]
      rfl
    · have : PyData.depth (sgD s) ≤ 5 := by
        show PyData.depth (.tuple [.str (S [s.c]), fracD s.p, lastD s.l]) ≤ 5
        rw [PyData.depth, PyData.depthAll, PyData.depthAll, PyData.depthAll, PyData.depthAll, PyData.depth]
        omega
      omega
theorem strs_lay : ∀ l : List Str, (∀ z ∈ l, PyData.strOk z = true) → PyData.canLayAll0 (l.map PyData.str) = true ∧ PyData.depthAll (l.map PyData.str) = 0
  | [], _ => ⟨rfl, rfl⟩
  | z :: l, h => by
    obtain ⟨h1, h2⟩ := strs_lay l fun z hz => h z (List.mem_cons_of_mem _ hz)
    rw [List.map_cons, PyData.canLayAll0, PyData.depthAll, h1, h2, PyData.canLay0, h z List.mem_cons_self, PyData.depth]
    exact ⟨rfl, rfl⟩
/-- as much as == asks -/
structure TgL (t : Tg) : Prop where
  s : ∀ s ∈ t.sg, low s.c = true
  f : ∀ z ∈ t.fi, PyData.strOk z = true
  p : ∀ z ∈ t.pa, PyData.strOk z = true
theorem letter_low {t : Tg} (h : TgOk t) {c : Nat} (hz : S [c] ∈ lettersT t) : low c = true := by
  obtain ⟨s, hs, e⟩ := List.mem_map.mp hz
  rw [← S1_inj e]
  exact (h.sg s hs).c
theorem TgOk.lay {t : Tg} (h : TgOk t) : TgL t where
  s := fun s hs => (h.sg s hs).c
  f := fun z hz => by
    have q := h.f1 z hz
    obtain ⟨c, rfl⟩ := letter_chars q
    exact low_str (letter_low h q)
  p := fun z hz => by
    obtain ⟨a, b, rfl, ha, hb⟩ := h.p1 z hz
    refine strOk_low ?_
    rw [show tl (S [a, b]) = [a, b] from rfl, List.all_cons, List.all_cons, letter_low h ha, letter_low h hb]
    rfl
theorem tg_lay {t : Tg} (h : TgL t) : PyData.canLay0 (tgD t) = true ∧ PyData.depth (tgD t) ≤ 10 := by
  obtain ⟨a1, a2⟩ := sgs_lay t.sg h.s
  obtain ⟨b1, b2⟩ := strs_lay t.fi h.f
  obtain ⟨c1, c2⟩ := strs_lay t.pa h.p
  unfold tgD strsD
  constructor
  · simp only [PyData.canLay0, PyData.canLayAll0, a1, b1, c1]
    rfl
  · simp only [PyData.depth, PyData.depthAll, b2, c2]
    omega
theorem tg_shaped {t : Tg} (h : TgL t) : SeqAt.shaped (tgD t) = true := by
  obtain ⟨h1, h2⟩ := tg_lay h
  unfold SeqAt.shaped
  rw [h1, Bool.true_and]
  exact decide_eq_true (by omega)
theorem tg_eqv {t : Tg} (h : TgL t) : PyData.eqv (tgD t) (tgD t) = true := SeqAt.eqv_refl _ (tg_lay h).1
/-! in the heap -/
structure TgAt (H : Hp) (v : V) (t : Tg) (T a1 a2 a3 : Addr) (xs : List V) : Prop where
  v : v = .ref T
  ht : H T = some (.tup [.ref a1, .ref a2, .ref a3, .int (t.lo : Nat)])
  s : H a1 = some (.lst xs)
  q : DqAll H xs (t.sg.map sgD)
  f : H a2 = some (.lst (t.fi.map V.str))
  p : H a3 = some (.lst (t.pa.map V.str))
  k1 : t.fi.length ≤ 100
  k2 : t.pa.length ≤ 100
  k3 : ∀ z ∈ t.fi ++ t.pa, z.length ≤ 100
  k4 : t.sg.length ≤ 100
theorem TgAt.up {H H' : Hp} {v : V} {t : Tg} {T a1 a2 a3 : Addr} {xs : List V} (h : TgAt H v t T a1 a2 a3 xs) (e : Same H H') : TgAt H' v t T a1 a2 a3 xs := ⟨h.v, e _ _ h.ht, e _ _ h.s, h.q.up e, e _ _ h.f, e _ _ h.p, h.k1, h.k2, h.k3, h.k4⟩
theorem dq_strs {H : Hp} : ∀ {l : List Str}, (∀ z ∈ l, z.length ≤ 1000000) → DqAll H (l.map V.str) (l.map PyData.str)
  | [], _ => .nil
  | z :: l, h => .cons (.str z (h z List.mem_cons_self)) (dq_strs fun z hz => h z (List.mem_cons_of_mem _ hz))
theorem TgAt.dq {H : Hp} {v : V} {t : Tg} {T a1 a2 a3 : Addr} {xs : List V} (h : TgAt H v t T a1 a2 a3 xs) : Dq H v (tgD t) := by
  obtain ⟨rfl, ht, hs, hq, hf, hp, k1, k2, k3, k4⟩ := h
  have hl := hq.length
  rw [List.length_map] at hl
  exact .tup ht (.cons (.lst hs hq (by omega)) (.cons (.lst hf (dq_strs fun z hz => Nat.le_trans (k3 z (List.mem_append_left _ hz)) (by decide)) (by rw [List.length_map]; omega)) (.cons (.lst hp (dq_strs fun z hz => Nat.le_trans (k3 z (List.mem_append_right _ hz)) (by decide)) (by rw [List.length_map]; omega)) (.cons (.int _) .nil)))) (by simp)
end
end My

namespace My
open PySem PySem.Spec PyProof.Rows L2 Z M SX TL
section
variable {P : Program} {w : World} {K : PySem.W.Frag} {mg : Str → Option Value} {base : Heap}
theorem len_vsN (js : List Nat) : (vsN js).length = js.length := by
  unfold vsN
  rw [List.length_map]
/-! ### cells, draws -/
def sp_cell (K : PySem.W.Frag) : Sp := fun vs H Q _ => ∃ (a : Addr) (ns : List Int) (k : Nat), vs = [.ref a, .int k] ∧ SqL K H a (ns.map V.int) ∧ ∀ c : Int, Q (.int c) H
theorem ok_law_cell (T : Txt K mg) : Z.C0 P w K mg base 1 "_law_cell" (sp_cell K) := by
  refine T.d_law_cell.c0 sc_law_cell (fun vs H Q E h => ?_) (Z.bd0 fun _ _ _ _ _ _ us hl => match us, hl with | [_, _], _ => rfl) (fun f cdv A outer s H vs Q E hr h => ⟨_, (pss_cons (ps_if (pt_cmpR op_ltI (pv 1) (pe_callB (k_len K) rfl T.b_len (by decide +kernel) (pa_cons (pv 0) pa_nil)) (nomark _))
  (pss_one (ps_ret (pe_ix (k_ix K) (pv 0) (pv 1) (fun _ _ => rfl)))) pss_nil)
  (pss_one (ps_ret pe_int))), ?_⟩)
  · obtain ⟨a, ns, k, rfl, _⟩ := h
    rfl
  · obtain ⟨a, ns, k, rfl, ha, q⟩ := h
    rw [st_law_cell]
    walk_at "st"
    walk_at "rd"
    refine r_ite (fun h1 => ?_) (fun h1 => ?_)
    · have hk2 : k < ns.length := by simp only [List.length_map] at h1; omega
      have hx : atI (ns.map V.int) (k : Int) = some (.int ns[k]) := atI_nat (by rw [List.getElem?_map, List.getElem?_eq_getElem hk2]; rfl)
      walk_at "rd"
      exact q _
    · walk_at "rd"
      exact q _
def drawOk (szs rs : List Nat) : Prop := rs.length = szs.length ∧ ∀ j (h1 : j < rs.length) (h2 : j < szs.length), rs[j] < szs[j]
def sp_draws (K : PySem.W.Frag) : Sp := fun vs H Q _ => ∃ (c : Int) (k : Nat) (o : Addr) (szs : List Nat), vs = [.int c, .int k, .ref o] ∧ k < 1000 ∧ szs.length ≤ 1000 ∧ H o = some (.lst (vsN szs)) ∧ (∀ z ∈ szs, 0 < z ∧ z ≤ 1000000000) ∧
  ∀ rs l H', drawOk szs rs → H l = none → Same H H' → H' l = some (.lst (vsN rs)) → Q (.ref l) H'
theorem ok_law_draws (T : Txt K mg) : Z.C0 P w K mg base 1 "_law_draws" (sp_draws K) := by
  refine T.d_law_draws.c0 sc_law_draws (fun vs H Q E h => ?_) (Z.bd0 fun _ _ _ _ _ _ us hl => match us, hl with | [_, _, _], _ => rfl) (fun f cdv A outer s H vs Q E hr h => ⟨_, (pss_cons (ps_set (i := 3) sc_law_draws.nd rfl (Or.inl rfl) (pe_callB call_absP rfl T.b_abs (by decide +kernel) (pa_cons (pv 0) pa_nil)))
  (pss_cons (ps_set (i := 4) sc_law_draws.nd rfl (Or.inl rfl) (pe_cmpR op_geI (pv 3) (pe_op op_powI pe_int pe_int) (nomark _)))
  (pss_cons (ps_set (i := 5) sc_law_draws.nd rfl (Or.inl rfl) (pe_op op_modP (pe_op op_mulP (pe_op (k_addP K) (pe_op (k_addP K) (pe_op op_modP (pv 3) pe_int) (pe_op op_mulP pe_int (pv 1))) pe_int) pe_int) pe_int))
  (pss_cons (ps_set (i := 6) sc_law_draws.nd rfl (Or.inl rfl) (pe_lst pa_nil))
  (pss_cons (ps_for PassesOwn.never rfl (k_iE K (by rfl) T.b_enumerate (pa_cons (pv 2) pa_nil)) (k_tup (n := 2) K rfl (pgs_cons (pg_name (i := 7) sc_law_draws.nd rfl (Or.inl rfl)) (pgs_cons (pg_name (i := 8) sc_law_draws.nd rfl (Or.inl rfl)) pgs_nil)))
  (pss_one (ps_if (pt_val (pv 4))
  (pss_cons (ps_expr (k_bm K PySem.F.plainAttrs_list PySem.F.slot_list_append PySem.F.type_list_append mt_append (pv 6) (pa_cons (pe_op op_modP (pv 3) (pv 8)) pa_nil)))
  (pss_one (ps_set (i := 3) sc_law_draws.nd rfl (Or.inl rfl) (pe_op op_div (pv 3) (pv 8))))) (pss_cons (ps_set (i := 5) sc_law_draws.nd rfl (Or.inl rfl) (pe_op op_modP (pe_op (k_addP K) (pe_op (k_addP K) (pe_op op_mulP (pv 5) (pv 5)) (pe_op op_mulP pe_int (pe_op (k_addP K) (pv 1) (pv 7)))) pe_int) pe_int))
  (pss_one (ps_expr (k_bm K PySem.F.plainAttrs_list PySem.F.slot_list_append PySem.F.type_list_append mt_append (pv 6) (pa_cons (pe_op op_modP (pe_op op_div (pv 5) pe_int) (pv 8)) pa_nil))))))))
  (pss_one (ps_ret (pv 6)))))))), ?_⟩)
  · obtain ⟨c, k, o, szs, rfl, _⟩ := h
    rfl
  · obtain ⟨c, k, o, szs, rfl, hk, hz, ho, hs, q⟩ := h
    rw [st_law_draws]
    walk_at "st"
    walk_at "rd"
    intro l H1 hl e1 f1
    walk_at "rd"
    have hm0 : (0 : Int) ≤ (c.natAbs % 1000000007 + 7919 * k + 1) * 48271 % 2147483629 := by omega
    have hm1 : ((c.natAbs : Int) % 1000000007 + 7919 * k + 1) * 48271 % 2147483629 < 2147483629 := by omega
    have hn0 : (0 : Int) ≤ (c.natAbs : Nat) := by omega
    revert hm0 hm1 hn0
    generalize ((c.natAbs : Int) % 1000000007 + 7919 * k + 1) * 48271 % 2147483629 = mx
    generalize decide ((1000000000000000000 : Int) ≤ (c.natAbs : Nat)) = g
    generalize ((c.natAbs : Nat) : Int) = num
    intro hm0 hm1 hn0
    refine forW (walk_enum (xs := vsN szs)) (fun i σ H2 => ∃ (num mx : Int) (rs : List Nat) (z1 z2 : Option V), σ = [some (.int c), some (.int k), some (.ref o), some (.int num), some (.bl g), some (.int mx), some (.ref l), z1, z2] ∧ 0 ≤ num ∧ 0 ≤ mx ∧ mx < 2147483629 ∧ Same H H2 ∧ H2 l = some (.lst (vsN rs)) ∧ rs.length = i ∧ ∀ j (h1 : j < rs.length) (h2 : j < szs.length), rs[j] < szs[j])
      ⟨num, mx, [], none, none, rfl, hn0, hm0, hm1, e1, f1, rfl, fun j h1 _ => absurd h1 (Nat.not_lt_zero _)⟩ (fun i σ H2 _ ⟨_, _, _, _, _, _, _, _, _, e, _⟩ => by walk_at "lk") ?_ ?_
    · rintro i x σ H2 H3 hi ⟨num, mx, rs, z1, z2, rfl, hn0, hm0, hm1, e2, f2, hr1, hr2⟩ y
      obtain ⟨T1, x1, x2, rfl, hT, rfl, hx1, hx2⟩ := y
      have e3 : Same H2 (upd H2 T1 (.tup [x1, x2])) := Same.new hT
      have f3 : (upd H2 T1 (.tup [x1, x2])) T1 = some (.tup [x1, x2]) := upd_same
      revert e3 f3
      generalize upd H2 T1 (.tup [x1, x2]) = H3
      intro e3 f3
      obtain rfl : V.int (i : Nat) = x1 := Option.some.inj hx1
      have hi2 : i < szs.length := by
        unfold vsN at hi
        rw [List.length_map] at hi
        exact hi
      obtain rfl : V.int (szs[i] : Nat) = x2 := by
        have hx2 : (vsN szs)[i]? = some x2 := hx2
        unfold vsN at hx2
        rw [List.getElem?_map, List.getElem?_eq_getElem hi2] at hx2
        exact Option.some.inj hx2
      obtain ⟨hs1, hs2⟩ := hs szs[i] (List.getElem_mem hi2)
      have f5 : H3 l = some (.lst (vsN rs)) := e3 _ _ f2
      have next : ∀ (n : Nat), n < szs[i] → ∀ j (h1 : j < (rs ++ [n]).length) (h2 : j < szs.length), (rs ++ [n])[j] < szs[j] := fun n hn j h1 h2 => by
        by_cases hj : j < rs.length
        · rw [List.getElem_append_left hj]
          exact hr2 j hj h2
        · rw [List.length_append, List.length_singleton] at h1
          have : j = i := by omega
          subst this
          rw [List.getElem_append_right (by omega)]
          simp only [List.getElem_singleton]
          exact hn
      have vs1 : ∀ n : Nat, vsN rs ++ [V.int (n : Nat)] = vsN (rs ++ [n]) := fun n => by
        unfold vsN
        rw [List.map_append]
        rfl
      have hvl : (vsN rs).length = i := by
        unfold vsN
        rw [List.length_map, hr1]
      have e4 : Same H H3 := e2.trans e3
      clear e2
      walk_at "rd"
      cases g with
      | true =>
        walk_at "rd"
        intro H4 b4 f4
        have e5 : Same H H4 := Same.but b4 hl e4
        walk_at "rd"
        have hv := Int.emod_lt_of_pos num (show (0 : Int) < (szs[i] : Nat) by omega)
        have hv0 := Int.emod_nonneg num (show ((szs[i] : Nat) : Int) ≠ 0 by omega)
        have hd0 : 0 ≤ num / ((szs[i] : Nat) : Int) := Int.ediv_nonneg hn0 (by omega)
        obtain ⟨n, hn⟩ : ∃ n : Nat, num % ((szs[i] : Nat) : Int) = n := ⟨(num % ((szs[i] : Nat) : Int)).toNat, by omega⟩
        rw [hn] at f4 hv
        rw [vs1] at f4
        exact ⟨_, mx, rs ++ [n], _, _, rfl, hd0, hm0, hm1, e5, f4, by rw [List.length_append, hr1]; rfl, next n (by omega)⟩
      | false =>
        walk_at "rd"
        intro H4 b4 f4
        have e5 : Same H H4 := Same.but b4 hl e4
        walk_at "rd"
        revert f4
        generalize hmx : (mx * mx + 104729 * ((k : Int) + (i : Int)) + 11) % 2147483587 = m2
        intro f4
        have hm2 : 0 ≤ m2 ∧ m2 < 2147483629 := by
          generalize mx * mx + 104729 * ((k : Int) + (i : Int)) + 11 = mm at hmx
          omega
        have hv := Int.emod_lt_of_pos (m2 / 16) (show (0 : Int) < (szs[i] : Nat) by omega)
        have hv0 := Int.emod_nonneg (m2 / 16) (show ((szs[i] : Nat) : Int) ≠ 0 by omega)
        obtain ⟨n, hn⟩ : ∃ n : Nat, m2 / 16 % ((szs[i] : Nat) : Int) = n := ⟨(m2 / 16 % ((szs[i] : Nat) : Int)).toNat, by omega⟩
        rw [hn] at f4 hv
        rw [vs1] at f4
        exact ⟨num, m2, rs ++ [n], _, _, rfl, hn0, hm2.1, hm2.2, e5, f4, by rw [List.length_append, hr1]; rfl, next n (by omega)⟩
    · rintro σ H2 ⟨num, mx, rs, z1, z2, rfl, hn0, hm0, hm1, e2, f2, hr1, hr2⟩
      walk_at "rd"
      refine q rs l H2 ⟨?_, hr2⟩ hl e2 f2
      rw [hr1]
      unfold vsN
      rw [List.length_map]
theorem at_vs {rs : List Nat} {i : Int} {n : Nat} (h : i = n) (hn : n < rs.length) : atI (vsN rs) i = some (.int (rs[n] : Nat)) := by
  subst h
  refine atI_nat ?_
  unfold vsN
  rw [List.getElem?_map, List.getElem?_eq_getElem hn]
  rfl
instance {x : Str} {n : Int} : Decidable (MulOk x n) := by
  unfold MulOk
  infer_instance
theorem mulC : ∀ c ∈ [98, 122], ∀ n : Fin 33, MulOk (S [c]) (n.1 : Nat) ∧ tl (Txt.mul (S [c]) (n.1 : Nat)) = List.replicate n.1 c := by decide +kernel
theorem abc_at : ∀ i : Fin 26, (Str.ofString "abcdefghijklmnopqrstuvwxyz").cps.toList[i.1]? = some (97 + i.1) := by decide +kernel
/-! ### drawn tongues -/
theorem div_ok {i : Int} {j n : Nat} (h0 : 0 < j) (h : j ≤ n) (hn : n < 10 ^ 60) : CDivP i j := by
  refine .inr (wide_div (b := 200) (by omega) ?_ (by decide) (by decide))
  have : (10 : Nat) ^ 60 < 2 ^ 200 := by decide
  show (j : Int).natAbs < 2 ^ 200
  rw [Int.natAbs_natCast]
  omega
def lowF (t b : Nat) : Nat × Nat := (t / Nat.gcd t b, b / Nat.gcd t b)
def frV (p : Nat × Nat) : List V := [.int (p.1 : Nat), .int (p.2 : Nat)]
theorem lowF_ok {t b : Nat} (ht : 1 ≤ t) (hb : 1 ≤ b) (ht2 : t < 10 ^ 18) (hb2 : b < 10 ^ 18) : FrOk (lowF t b) := by
  have g0 : 0 < Nat.gcd t b := Nat.gcd_pos_of_pos_right _ (by omega)
  exact ⟨Nat.div_pos (Nat.gcd_le_left _ (by omega)) g0, Nat.div_pos (Nat.gcd_le_right _ (by omega)) g0, lowest_gcd (t := t) (by omega), Nat.lt_of_le_of_lt (Nat.div_le_self _ _) ht2, Nat.lt_of_le_of_lt (Nat.div_le_self _ _) hb2⟩
def sp_llow : Sp := fun vs H Q _ => ∃ t b : Nat, vs = [.int t, .int b] ∧ 1 ≤ t ∧ 1 ≤ b ∧ b < 10 ^ 60 ∧ ∀ l H', H l = none → Same H H' → H' l = some (.tup (frV (lowF t b))) → Q (.ref l) H'
theorem ok_law_low (T : Txt K mg) : Z.C0 P w K mg base 1 "_law_low" (sp_llow) := by
  refine T.d_law_low.c0 sc_law_low (fun vs H Q E h => ?_) (Z.bd0 fun _ _ _ _ _ _ us hl => match us, hl with | [_, _], _ => rfl) (fun f cdv A outer s H vs Q E hr h => ⟨_, (pss_cons (ps_par (i := 2) (j := 3) rfl sc_law_low.nd rfl rfl (by decide) rfl rfl (pa_cons (pe_callB call_absP rfl T.b_abs (by decide +kernel) (pa_cons (pv 0) pa_nil)) (pa_cons (pv 1) pa_nil)) rfl)
  (pss_cons (ps_while PassesOwn.never (pt_cmpR op_gtI (pv 3) pe_int (nomark _))
  (pss_one (ps_par (i := 2) (j := 3) rfl sc_law_low.nd rfl rfl (by decide) rfl rfl (pa_cons (pv 3) (pa_cons (pe_op op_modP (pv 2) (pv 3)) pa_nil)) rfl)))
  (pss_one (ps_ret (pe_tup (pa_cons (pe_op op_div (pv 0) (pv 2)) (pa_cons (pe_op op_div (pv 1) (pv 2)) pa_nil))))))), ?_⟩)
  · obtain ⟨t, b, rfl, _⟩ := h
    rfl
  · obtain ⟨t, b, rfl, ht, hb, hb2, q⟩ := h
    rw [st_law_low]
    walk_at "st"
    walk_at "rd"
    have g0 : 0 < Nat.gcd t b := Nat.gcd_pos_of_pos_right _ (by omega)
    have g1 : Nat.gcd t b ≤ b := Nat.gcd_le_right _ (by omega)
    refine r_while (fun m σ H' => H' = H ∧ ∃ x y : Nat, σ = [some (.int t), some (.int b), some (.int x), some (.int y)] ∧ m = y ∧ Nat.gcd x y = Nat.gcd t b) b (by walk_at "mn") ⟨rfl, t, b, by rw [Int.natAbs_natCast], rfl, rfl⟩ ?_
    rintro m σ _ ⟨rfl, x, y, rfl, rfl, e⟩
    walk_at "rd"
    refine r_ite (fun h1 => ?_) (fun h1 => ?_)
    · walk_at "rd"
      exact ⟨x % m, Nat.mod_lt _ (by omega), rfl, m, x % m, rfl, rfl, (gcd_step (by omega)).trans e⟩
    · walk_at "rd"
      have : m = 0 := by omega
      subst this
      rw [Nat.gcd_zero_right] at e
      subst e
      refine r_div ?_ (div_ok g0 g1 hb2)
      walk_at "rd"
      refine r_div ?_ (div_ok g0 g1 hb2)
      walk_at "rd"
      intro l H' hl e f
      exact q l H' hl e f
def csV (cs : List Nat) : List V := cs.map fun c => V.str (S [c])
def sp_letters (K : PySem.W.Frag) : Sp := fun vs H Q _ => ∃ (p : Addr) (rs : List Nat) (many : Nat) (h : 4 ≤ rs.length), vs = [.ref p, .int many] ∧ H p = some (.lst (vsN rs)) ∧ rs[2] < 26 ∧ rs[3] < 6 ∧ many ≤ 6 ∧
  ∀ cs l H', cs.length = many → cs.Nodup → (∀ c ∈ cs, low c = true) → H l = none → Same H H' → H' l = some (.lst (csV cs)) → Q (.ref l) H'
theorem ok_law_letters (T : Txt K mg) : Z.C0 P w K mg base 1 "_law_letters" (sp_letters K) := by
  refine T.d_law_letters.c0 sc_law_letters (fun vs H Q E h => ?_) (Z.bd0 fun _ _ _ _ _ _ us hl => match us, hl with | [_, _], _ => rfl) (fun f cdv A outer s H vs Q E hr h => ⟨_, (pss_cons (ps_set (i := 2) sc_law_letters.nd rfl (Or.inr rfl) (pe_ix (k_ix K) (pe_lst (pa_cons pe_int (pa_cons pe_int (pa_cons pe_int (pa_cons pe_int (pa_cons pe_int (pa_cons pe_int pa_nil))))))) (pe_ix (k_ix K) (pv 0) pe_int (fun _ _ => rfl)) (fun _ _ => rfl)))
  (pss_one (ps_ret (pe_lc (own := [("_law_k", 3)]) rfl sc_law_letters.nd (pi_range1 rfl T.b_range (pa_cons (pv 1) pa_nil)) (blkOk_by (N := ["_law_row", "_law_many", "_law_step", "_law_k"]) (sc := defScope s_law_letters) (by decide +kernel)) (fun _ _ _ _ _ => (pg_name (i := 3) sc_law_letters.nd rfl (Or.inl rfl))) (fun _ _ _ _ _ => pts_nil) (fun _ _ _ _ _ => (pe_ix (k_ix K) pe_str (pe_op op_modP (pe_op (k_addP K) (pe_ix (k_ix K) (pv 0) pe_int (fun _ _ => rfl)) (pe_op op_mulP (pv 2) (pv 3))) pe_int) (fun _ _ => rfl))))))), ?_⟩)
  · obtain ⟨p, rs, many, h, rfl, _⟩ := h
    rfl
  · obtain ⟨p, rs, many, h4, rfl, hp, h2, h3, hm, q⟩ := h
    rw [st_law_letters]
    walk_at "st"
    have a2 : atI (vsN rs) 2 = some (.int (rs[2] : Nat)) := at_vs (n := 2) rfl (by omega)
    have a3 : atI (vsN rs) 3 = some (.int (rs[3] : Nat)) := at_vs (n := 3) rfl (by omega)
    walk_at "rd"
    intro l1 H1 hl1 e1 f1
    walk_at "rd"
    obtain ⟨v, hv, hmem⟩ := at_in (xs := [V.int 1, V.int 3, V.int 5, V.int 7, V.int 9, V.int 11]) (z := ((rs[3] : Nat) : Int)) (by omega) (by simp; omega)
    obtain ⟨st, rfl, hst⟩ : ∃ st : Nat, v = .int st ∧ (st = 1 ∨ st = 3 ∨ st = 5 ∨ st = 7 ∨ st = 9 ∨ st = 11) := by
      simp only [List.mem_cons, List.not_mem_nil, or_false] at hmem
      rcases hmem with rfl | rfl | rfl | rfl | rfl | rfl
      · exact ⟨1, rfl, by omega⟩
      · exact ⟨3, rfl, by omega⟩
      · exact ⟨5, rfl, by omega⟩
      · exact ⟨7, rfl, by omega⟩
      · exact ⟨9, rfl, by omega⟩
      · exact ⟨11, rfl, by omega⟩
    walk_at "rd"
    refine lcW walk_r0 (fun i acc _ => acc = csV ((List.range i).map fun k => 97 + (rs[2] + st * k) % 26)) rfl (fun _ _ => trivial) (fun _ _ => rfl) ?_ ?_
    · rintro i x acc Dl _ G1 hi hD g1 g2 hl2 rfl ⟨rfl, rfl⟩
      have a2' : G1 p = some (.lst (vsN rs)) := g1 _ _ (e1 _ _ hp)
      walk_at "rd"
      have hlt : (rs[2] + st * i) % 26 < 26 := Nat.mod_lt _ (by decide)
      refine r_ixS (c := 97 + (rs[2] + st * i) % 26) (by decide +kernel) ?_ ?_
      · have := abc_at ⟨(rs[2] + st * i) % 26, hlt⟩
        have e : (((rs[2] : Nat) : Int) + ((st : Nat) : Int) * ((i : Nat) : Int)) % (26 : Int) = (((rs[2] + st * i) % 26 : Nat) : Int) := by
          rw [Int.natCast_emod, Int.natCast_add, Int.natCast_mul]
          rfl
        rw [e]
        exact atI_nat this
      refine lc_put (by omega) hD g1 g2 hl2 fun H5 _ _ => ?_
      unfold csV
      rw [List.range_succ, List.map_append, List.map_append]
      rfl
    · rintro acc Dl H3 hD g1 g2 rfl
      rw [show ((many : Nat) : Int).toNat = many by omega] at g2
      walk_at "rd"
      refine q _ Dl H3 (by simp) ?_ ?_ (Z.fr hD e1) (e1.trans g1) g2
      · refine List.Pairwise.map (R := fun a b => a < 6 ∧ b < 6 ∧ a ≠ b) _ (fun a b h e => ?_) ?_
        · obtain ⟨ha, hb, hn⟩ := h
          rcases hst with rfl | rfl | rfl | rfl | rfl | rfl <;> omega
        · refine List.Pairwise.imp_of_mem (R := (· ≠ ·)) (fun ha hb h => ⟨?_, ?_, h⟩) List.nodup_range
          · have := List.mem_range.mp ha
            omega
          · have := List.mem_range.mp hb
            omega
      · intro c hc
        obtain ⟨k, _, rfl⟩ := List.mem_map.mp hc
        have : (rs[2] + st * k) % 26 < 26 := Nat.mod_lt _ (by decide)
        generalize (rs[2] + st * k) % 26 = y at this
        exact decide_eq_true (by omega)
def sp_sign (K : PySem.W.Frag) : Sp := fun vs H Q _ => ∃ (c : Int) (k : Nat) (z : Str) (b : Bool), vs = [.int c, .int k, .str z, .bl b] ∧ k ≤ 100 ∧ ∀ p l v2 v3 T H', FrOk p → (∀ r, l = some r → FrOk r) → H T = none → Same H H' → H' T = some (.tup [.str z, v2, v3]) → Dq H' v2 (fracD p) → Dq H' v3 (lastD l) → Q (.ref T) H'
theorem ok_law_sign (T : Txt K mg) : Z.C0 P w K mg base 2 "_law_sign" (sp_sign K) := by
  refine T.d_law_sign.c0 sc_law_sign (fun vs H Q E h => ?_) (Z.bd0 fun _ _ _ _ _ _ us hl => match us, hl with | [_, _, _, _], _ => rfl) (fun f cdv A outer s H vs Q E hr h => ⟨_, (pss_cons (ps_set (i := 4) sc_law_sign.nd rfl (Or.inl rfl) (pe_c0 (ok_law_draws T) hr (by decide) rfl (pa_cons (pv 0) (pa_cons (pe_op (k_addP K) pe_int (pv 1)) (pa_cons (pe_lst (pa_cons pe_int (pa_cons pe_int (pa_cons pe_int (pa_cons pe_int (pa_cons pe_int (pa_cons pe_int (pa_cons pe_int pa_nil)))))))) pa_nil)))))
  (pss_cons (ps_set (i := 5) sc_law_sign.nd rfl (Or.inl rfl) (pe_c0 (ok_law_low T) hr (by decide) rfl (pa_cons (pe_op (k_addP K) pe_int (pe_ix (k_ix K) (pv 4) pe_int (fun _ _ => rfl))) (pa_cons (pe_op (k_addP K) pe_int (pe_ix (k_ix K) (pv 4) pe_int (fun _ _ => rfl))) pa_nil))))
  (Evl.pss_cut (ps_if (pt_val (pv 3))
  (pss_one (ps_set (i := 5) sc_law_sign.nd rfl (Or.inl rfl) (pe_c0 (ok_law_low T) hr (by decide) rfl (pa_cons (pe_op (k_addP K) pe_int (pe_ix (k_ix K) (pv 4) pe_int (fun _ _ => rfl))) (pa_cons (pe_op (k_addP K) pe_int (pe_ix (k_ix K) (pv 4) pe_int (fun _ _ => rfl))) pa_nil))))) pss_nil)
  (pss_cons (ps_set (i := 6) sc_law_sign.nd rfl (Or.inl rfl) (pe_c0 (ok_law_low T) hr (by decide) rfl (pa_cons (pe_op (k_addP K) pe_int (pe_ix (k_ix K) (pv 4) pe_int (fun _ _ => rfl))) (pa_cons (pe_op (k_addP K) pe_int (pe_ix (k_ix K) (pv 4) pe_int (fun _ _ => rfl))) pa_nil))))
  (pss_one (ps_ret (pe_tup (pa_cons (pv 2) (pa_cons (pv 5) (pa_cons (pe_ix (k_ix K) (pe_lst (pa_cons (pv 5) (pa_cons pe_non (pa_cons (pv 6) (pa_cons (pe_tup (pa_cons (pe_op (k_addP K) pe_int (pe_ix (k_ix K) (pv 4) pe_int (fun _ _ => rfl))) (pa_cons pe_int pa_nil))) (pa_cons (pv 5) (pa_cons (pv 5) pa_nil))))))) (pe_ix (k_ix K) (pv 4) pe_int (fun _ _ => rfl)) (fun _ _ => rfl)) pa_nil)))))))))), ?_⟩)
  · obtain ⟨c, k, z, b, rfl, _⟩ := h
    rfl
  · obtain ⟨c, k, z, b, rfl, hk, q⟩ := h
    rw [st_law_sign]
    walk_at "st"
    walk_at "rd"
    intro l1 H1 hl1 e1 f1
    walk_at "rd"
    refine ⟨c, 1 + k, l1, [5, 3, 6, 7, 4, 999999999, 999999999], by rw [Int.natCast_add]; rfl, by omega, by decide, f1, by decide, fun rs o1 H2 hd ho1 e2 f2 => ?_⟩
    obtain ⟨hr1, hr2⟩ := hd
    have hr1' : rs.length = 7 := hr1
    have b0 : rs[0] < 5 := hr2 0 (by omega) (by decide)
    have b1 : rs[1] < 3 := hr2 1 (by omega) (by decide)
    have b2 : rs[2] < 6 := hr2 2 (by omega) (by decide)
    have b3 : rs[3] < 7 := hr2 3 (by omega) (by decide)
    have b4 : rs[4] < 4 := hr2 4 (by omega) (by decide)
    have b5 : rs[5] < 999999999 := hr2 5 (by omega) (by decide)
    have b6 : rs[6] < 999999999 := hr2 6 (by omega) (by decide)
    have a0 : atI (vsN rs) 0 = some (.int (rs[0] : Nat)) := at_vs (n := 0) rfl (by omega)
    have a1 : atI (vsN rs) 1 = some (.int (rs[1] : Nat)) := at_vs (n := 1) rfl (by omega)
    have a2 : atI (vsN rs) 2 = some (.int (rs[2] : Nat)) := at_vs (n := 2) rfl (by omega)
    have a3 : atI (vsN rs) 3 = some (.int (rs[3] : Nat)) := at_vs (n := 3) rfl (by omega)
    have a4 : atI (vsN rs) 4 = some (.int (rs[4] : Nat)) := at_vs (n := 4) rfl (by omega)
    have a5 : atI (vsN rs) 5 = some (.int (rs[5] : Nat)) := at_vs (n := 5) rfl (by omega)
    have a6 : atI (vsN rs) 6 = some (.int (rs[6] : Nat)) := at_vs (n := 6) rfl (by omega)
    clear hr2
    walk_at "rd"
    refine ⟨1 + rs[0], 1 + rs[1], by rw [Int.natCast_add, Int.natCast_add]; rfl, by omega, by omega, by omega, fun p1 H3 hp1 e3 f3 => ?_⟩
    walk_at "rd"
    refine r_cut (fun σ' H' => ∃ pp p, σ' = [some (.int c), some (.int k), some (.str z), some (.bl b), some (.ref o1), some (.ref pp), none] ∧ Same H H' ∧ H' o1 = some (.lst (vsN rs)) ∧ H' pp = some (.tup (frV p)) ∧ FrOk p) ?_ ?_
    · walk_at "rd"
      cases b with
      | true =>
        walk_at "rd"
        refine ⟨1 + rs[5], 1 + rs[6], by rw [Int.natCast_add, Int.natCast_add]; rfl, by omega, by omega, by omega, fun p2 H4 hp2 e4 f4 => ?_⟩
        walk_at "rd"
        exact ⟨p2, _, rfl, e1.trans (e2.trans (e3.trans e4)), e4 _ _ (e3 _ _ f2), f4, lowF_ok (by omega) (by omega) (by omega) (by omega)⟩
      | false =>
        walk_at "rd"
        exact ⟨p1, _, rfl, e1.trans (e2.trans e3), e3 _ _ f2, f3, lowF_ok (by omega) (by omega) (by omega) (by omega)⟩
    clear e1 e2 e3 f1 f2 f3 hl1 ho1 hp1
    rintro σ' H2 ⟨pp, p, rfl, e2, f2, f3, hp⟩
    walk_at "rd"
    refine ⟨1 + rs[3], 1 + rs[4], by rw [Int.natCast_add, Int.natCast_add]; rfl, by omega, by omega, by omega, fun p3 H4 hp3 e4 f4 => ?_⟩
    have ho := lowF_ok (t := 1 + rs[3]) (b := 1 + rs[4]) (by omega) (by omega) (by omega) (by omega)
    revert f4 ho
    generalize lowF (1 + rs[3]) (1 + rs[4]) = po
    intro f4 ho
    walk_at "rd"
    intro p5 H5 hp5 e5 f5
    walk_at "rd"
    intro l6 H6 hl6 e6 f6
    walk_at "rd"
    obtain ⟨v, hv, hmem⟩ := at_in (xs := [V.ref pp, V.non, V.ref p3, V.ref p5, V.ref pp, V.ref pp]) (z := ((rs[2] : Nat) : Int)) (by omega) (by simp; omega)
    have k1 : H6 pp = some (.tup (frV p)) := by walk_at "lk"
    have k3 : H6 p3 = some (.tup (frV po)) := by walk_at "lk"
    have k5 : H6 p5 = some (.tup (frV (9 + rs[3], 1))) := by
      have : H6 p5 = some (.tup [.int (9 + (rs[3] : Nat)), .int 1]) := by walk_at "lk"
      rw [this]
      unfold frV
      rw [Int.natCast_add]
      rfl
    have frq : ∀ {a p}, H6 a = some (.tup (frV p)) → Dq H6 (.ref a) (fracD p) := fun h => .tup h (.cons (.int _) (.cons (.int _) .nil)) (by simp [frV])
    obtain ⟨ol, hol, hok⟩ : ∃ ol, Dq H6 v (lastD ol) ∧ ∀ r, ol = some r → FrOk r := by
      simp only [List.mem_cons, List.not_mem_nil, or_false] at hmem
      rcases hmem with rfl | rfl | rfl | rfl | rfl | rfl
      · exact ⟨some p, frq k1, fun r h => by cases h; exact hp⟩
      · exact ⟨none, .non, fun r h => by cases h⟩
      · exact ⟨some po, frq k3, fun r h => by cases h; exact ho⟩
      · exact ⟨some (9 + rs[3], 1), frq k5, fun r h => by cases h; exact ⟨by simp; omega, by simp, by simp, by simp; omega, by show (1 : Nat) < 10 ^ 18; decide⟩⟩
      · exact ⟨some p, frq k1, fun r h => by cases h; exact hp⟩
      · exact ⟨some p, frq k1, fun r h => by cases h; exact hp⟩
    walk_at "rd"
    intro T H7 hT e7 f7
    have ee := e2.trans (e4.trans (e5.trans e6))
    exact q p ol _ v T H7 hp hok (Z.fr hT ee) (ee.trans e7) f7 ((frq k1).up e7) (hol.up e7)
end
end My

namespace My
open PySem PySem.Spec PyProof.Rows L2 Z M SX TL
section
variable {P : Program} {w : World} {K : PySem.W.Frag} {mg : Str → Option Value} {base : Heap}
theorem repl1 {α : Type} : ∀ (n : Nat) (v : α), (List.replicate n [v]).flatten = List.replicate n v
  | 0, _ => rfl
  | n + 1, v => by rw [List.replicate_succ, List.flatten_cons, repl1 n v]; rfl
theorem fr_del {H : Hp} {v : V} {p : Nat × Nat} {l : Addr} {ys : List V} (h : Dq H v (fracD p)) (hl : H l = some (.lst ys)) : Dq (L2.del H l) v (fracD p) := by
  obtain ⟨a, rfl, ha⟩ := dq_ints2 h
  have n : a ≠ l := fun e => by
    rw [e, hl] at ha
    cases ha
  exact .tup (delG ha n) (.cons (.int _) (.cons (.int _) .nil)) (by simp)
theorem last_del {H : Hp} {v : V} {o : Option (Nat × Nat)} {l : Addr} {ys : List V} (h : Dq H v (lastD o)) (hl : H l = some (.lst ys)) : Dq (L2.del H l) v (lastD o) := by
  cases o with
  | none =>
    obtain rfl := Dq.noneV h
    exact .non
  | some p => exact fr_del h hl
def prS (cs : List Nat) (k : Nat) : Str := S [cs.getD (k / cs.length) 0, cs.getD (k % cs.length) 0]
theorem getD_mem {cs : List Nat} {i : Nat} (h : i < cs.length) : cs.getD i 0 ∈ cs := by
  rw [List.getD_eq_getElem?_getD, List.getElem?_eq_getElem h]
  exact List.getElem_mem h
theorem prS_inj {cs : List Nat} (nd : cs.Nodup) {a b : Nat} (ha : a < cs.length * cs.length) (hb : b < cs.length * cs.length) (e : prS cs a = prS cs b) : a = b := by
  have h := SX.S_inj e
  have h1 := (List.cons.inj h).1
  have h2 := (List.cons.inj (List.cons.inj h).2).1
  have a1 : a / cs.length < cs.length := Nat.div_lt_of_lt_mul ha
  have b1 : b / cs.length < cs.length := Nat.div_lt_of_lt_mul hb
  have pos : 0 < cs.length := by
    cases hc : cs.length with
    | zero => rw [hc] at ha; omega
    | succ n => omega
  have a2 : a % cs.length < cs.length := Nat.mod_lt _ pos
  have b2 : b % cs.length < cs.length := Nat.mod_lt _ pos
  rw [List.getD_eq_getElem?_getD, List.getD_eq_getElem?_getD, List.getElem?_eq_getElem (by assumption), List.getElem?_eq_getElem (by assumption)] at h1 h2
  have q1 := nd_inj nd a1 b1 h1
  have q2 := nd_inj nd a2 b2 h2
  rw [← Nat.div_add_mod a cs.length, ← Nat.div_add_mod b cs.length, q1, q2]
theorem tg_mk {sg : List Sg} {fs ks : List Nat} {lo : Nat} (n1 : 2 ≤ sg.length) (n2 : sg.length ≤ 6) (h : ∀ s ∈ sg, SgOk s) (nd : (sg.map Sg.c).Nodup) (hf : fs.Sublist (sg.map Sg.c)) (hk : ks.Sublist (List.range ((sg.map Sg.c).length * (sg.map Sg.c).length))) (l1 : 1 ≤ lo) (l2 : lo ≤ 8) :
    TgOk ⟨sg, fs.map fun c => S [c], ks.map (prS (sg.map Sg.c)), lo⟩ := by
  have lt : lettersT ⟨sg, fs.map fun c => S [c], ks.map (prS (sg.map Sg.c)), lo⟩ = (sg.map Sg.c).map fun c => S [c] := by
    unfold lettersT
    rw [List.map_map]
    rfl
  refine ⟨n1, n2, h, nd, ?_, ?_, ?_, ?_, l1, l2⟩
  · intro z hz
    rw [lt]
    obtain ⟨c, hc, rfl⟩ := List.mem_map.mp hz
    exact List.mem_map.mpr ⟨c, hf.subset hc, rfl⟩
  · exact List.pairwise_map.mpr ((nd.sublist hf).imp fun {a b} q e => q (S1_inj e))
  · intro z hz
    rw [lt]
    obtain ⟨k, hk2, rfl⟩ := List.mem_map.mp hz
    have hk3 := List.mem_range.mp (hk.subset hk2)
    have pos : 0 < (sg.map Sg.c).length := by rw [List.length_map]; omega
    exact ⟨_, _, rfl, List.mem_map.mpr ⟨_, getD_mem (Nat.div_lt_of_lt_mul hk3), rfl⟩, List.mem_map.mpr ⟨_, getD_mem (Nat.mod_lt _ pos), rfl⟩⟩
  · have hnd := List.Nodup.sublist hk List.nodup_range
    refine List.pairwise_map.mpr (List.Pairwise.imp_of_mem (R := (· ≠ ·)) (fun {a b} ha hb q e => q ?_) hnd)
    exact prS_inj nd (List.mem_range.mp (hk.subset ha)) (List.mem_range.mp (hk.subset hb)) e
theorem nodup_rev {α : Type} {l : List α} (h : l.Nodup) : l.reverse.Nodup := List.pairwise_reverse.mpr (h.imp fun q => Ne.symm q)
theorem TgOk.rev {t : Tg} (h : TgOk t) : TgOk ⟨t.sg, t.fi.reverse, t.pa.reverse, t.lo⟩ := ⟨h.n1, h.n2, h.sg, h.nd, fun z hz => h.f1 z (List.mem_reverse.mp hz), nodup_rev h.f2, fun z hz => h.p1 z (List.mem_reverse.mp hz), nodup_rev h.p2, h.l1, h.l2⟩
def sp_tongue (K : PySem.W.Frag) : Sp := fun vs H Q _ => ∃ (a : Addr) (ns : List Int) (most longest : Nat), vs = [.ref a, .int most, .int longest] ∧ SqL K H a (ns.map V.int) ∧ 2 ≤ most ∧ most ≤ 6 ∧ 1 ≤ longest ∧ longest ≤ 8 ∧
  ∀ t T a1 a2 a3 xs H', TgOk t → Same H H' → TgAt H' (.ref T) t T a1 a2 a3 xs → Q (.ref T) H'
theorem ok_law_tongue (T : Txt K mg) : Z.C0 P w K mg base 3 "_law_tongue" (sp_tongue K) := by
  refine T.d_law_tongue.c0 sc_law_tongue (fun vs H Q E h => ?_) (Z.bd0 fun _ _ _ _ _ _ us hl => match us, hl with | [_, _, _], _ => rfl) (fun f cdv A outer s H vs Q E hr h => ⟨_, (pss_cons (ps_set (i := 3) sc_law_tongue.nd rfl (Or.inl rfl) (pe_c0 (ok_law_draws T) hr (by decide) rfl (pa_cons (pe_c0 (ok_law_cell T) hr (by decide) rfl (pa_cons (pv 0) (pa_cons pe_int pa_nil))) (pa_cons pe_int (pa_cons (pe_lst (pa_cons (pe_op op_subI (pv 1) pe_int) (pa_cons (pv 2) (pa_cons pe_int (pa_cons pe_int (pa_cons pe_int pa_nil)))))) pa_nil)))))
  (pss_cons (ps_set (i := 4) sc_law_tongue.nd rfl (Or.inl rfl) (pe_op (k_addP K) pe_int (pe_ix (k_ix K) (pv 3) pe_int (fun _ _ => rfl))))
  (pss_cons (ps_set (i := 5) sc_law_tongue.nd rfl (Or.inl rfl) (pe_c0 (ok_law_letters T) hr (by decide) rfl (pa_cons (pv 3) (pa_cons (pv 4) pa_nil))))
  (pss_cons (ps_set (i := 6) sc_law_tongue.nd rfl (Or.inl rfl) (pe_lst pa_nil))
  (pss_cons (ps_for PassesOwn.never rfl (k_iE K (by rfl) T.b_enumerate (pa_cons (pv 5) pa_nil)) (k_tup (n := 2) K rfl (pgs_cons (pg_name (i := 7) sc_law_tongue.nd rfl (Or.inl rfl)) (pgs_cons (pg_name (i := 8) sc_law_tongue.nd rfl (Or.inl rfl)) pgs_nil)))
  (pss_one (ps_expr (k_bm K PySem.F.plainAttrs_list PySem.F.slot_list_append PySem.F.type_list_append mt_append (pv 6) (pa_cons (pe_c0 (ok_law_sign T) hr (by decide) rfl (pa_cons (pe_c0 (ok_law_cell T) hr (by decide) rfl (pa_cons (pv 0) (pa_cons (pe_op (k_addP K) pe_int (pv 7)) pa_nil))) (pa_cons (pv 7) (pa_cons (pv 8) (pa_cons (pe_cmpR (k_eqP K hr.units) (pe_ix (k_ix K) (pv 3) pe_int (fun _ _ => rfl)) pe_int (nomark _)) pa_nil))))) pa_nil)))))
  (pss_cons (ps_set (i := 9) sc_law_tongue.nd rfl (Or.inr rfl) (pe_c0 (ok_law_draws T) hr (by decide) rfl (pa_cons (pe_c0 (ok_law_cell T) hr (by decide) rfl (pa_cons (pv 0) (pa_cons pe_int pa_nil))) (pa_cons pe_int (pa_cons (pe_op (k_addP K) (pe_op (k_addP K) (pe_lst (pa_cons pe_int pa_nil)) (pe_op op_mulP (pe_lst (pa_cons pe_int pa_nil)) (pe_op (k_addP K) (pv 4) (pe_op op_mulP (pv 4) (pv 4))))) (pe_lst (pa_cons pe_int pa_nil))) pa_nil)))))
  (pss_cons (ps_if (pt_cmpR (k_eqP K hr.units) (pe_ix (k_ix K) (pv 9) pe_int (fun _ _ => rfl)) pe_int (nomark _))
  (pss_one (ps_ret (pe_tup (pa_cons (pv 6) (pa_cons (pe_lst pa_nil) (pa_cons (pe_lst pa_nil) (pa_cons (pe_op (k_addP K) pe_int (pe_ix (k_ix K) (pv 3) pe_int (fun _ _ => rfl))) pa_nil))))))) pss_nil)
  (pss_cons (ps_setLc (i := 10) (own := [("_law_k", 7), ("_law_letter", 8)]) rfl sc_law_tongue.nd rfl rfl (sw_true rfl rfl rfl (by decide +kernel)) (k_iE K (by rfl) T.b_enumerate (pa_cons (pv 5) pa_nil)) (blkOk_by (N := ["_law_script", "_law_most", "_law_longest", "_law_row", "_law_many", "_law_letters_here", "_law_signs", "_law_k", "_law_letter", "_law_bans", "_law_firsts", "_law_pairs"]) (sc := defScope s_law_tongue) (by decide +kernel)) (fun _ _ _ _ _ => (k_tup (n := 2) K rfl (pgs_cons (pg_name (i := 7) sc_law_tongue.nd rfl (Or.inl rfl)) (pgs_cons (pg_name (i := 8) sc_law_tongue.nd rfl (Or.inl rfl)) pgs_nil)))) (fun _ _ _ _ _ => (pts_one (pt_cmpR (k_eqP K hr.units) (pe_ix (k_ix K) (pv 9) (pe_op (k_addP K) pe_int (pv 7)) (fun _ _ => rfl)) pe_int (nomark _)))) (fun _ _ _ _ _ => (pv 8)))
  (pss_cons (ps_set (i := 11) sc_law_tongue.nd rfl (Or.inl rfl) (pe_lst pa_nil))
  (pss_cons (ps_for PassesOwn.never rfl (pi_range1 rfl T.b_range (pa_cons (pe_op op_mulP (pv 4) (pv 4)) pa_nil)) (pg_name (i := 7) sc_law_tongue.nd rfl (Or.inl rfl))
  (pss_one (ps_if (pt_cmpR (k_eqP K hr.units) (pe_ix (k_ix K) (pv 9) (pe_op (k_addP K) (pe_op (k_addP K) pe_int (pv 4)) (pv 7)) (fun _ _ => rfl)) pe_int (nomark _))
  (pss_one (ps_expr (k_bm K PySem.F.plainAttrs_list PySem.F.slot_list_append PySem.F.type_list_append mt_append (pv 11) (pa_cons (pe_op (k_addP K) (pe_ix (k_ix K) (pv 5) (pe_op op_div (pv 7) (pv 4)) (fun _ _ => rfl)) (pe_ix (k_ix K) (pv 5) (pe_op op_modP (pv 7) (pv 4)) (fun _ _ => rfl))) pa_nil)))) pss_nil)))
  (pss_cons (ps_if (pt_cmpR (k_eqP K hr.units) (pe_ix (k_ix K) (pv 9) (pe_un un_neg pe_int) (fun _ _ => rfl)) pe_int (nomark _))
  (pss_one (ps_ret (pe_tup (pa_cons (pv 6) (pa_cons (k_revL K (pv 10)) (pa_cons (k_revL K (pv 11)) (pa_cons (pe_op (k_addP K) pe_int (pe_ix (k_ix K) (pv 3) pe_int (fun _ _ => rfl))) pa_nil))))))) pss_nil)
  (pss_one (ps_ret (pe_tup (pa_cons (pv 6) (pa_cons (pv 10) (pa_cons (pv 11) (pa_cons (pe_op (k_addP K) pe_int (pe_ix (k_ix K) (pv 3) pe_int (fun _ _ => rfl))) pa_nil)))))))))))))))))), ?_⟩)
  · obtain ⟨a, ns, most, longest, rfl, _⟩ := h
    rfl
  · obtain ⟨a, ns, most, longest, rfl, ha, hm1, hm2, hl1, hl2, q⟩ := h
    rw [st_law_tongue]
    walk_at "st"
    walk_at "rd"
    refine ⟨a, ns, 0, rfl, ha, fun c => ?_⟩
    walk_at "rd"
    intro l1 H1 hl1' e1 f1
    have f1' : H1 l1 = some (.lst (vsN [most - 1, longest, 26, 6, 4])) := by
      rw [f1]
      unfold vsN
      have : ((most : Nat) : Int) - 1 = ((most - 1 : Nat) : Int) := by omega
      rw [this]
      rfl
    walk_at "rd"
    refine ⟨c, 0, l1, [most - 1, longest, 26, 6, 4], rfl, by decide, by simp, f1', fun z hz => ?_, fun rs o1 H2 hd ho1 e2 f2 => ?_⟩
    · simp only [List.mem_cons, List.not_mem_nil, or_false] at hz
      rcases hz with rfl | rfl | rfl | rfl | rfl <;> omega
    obtain ⟨hr1, hr2⟩ := hd
    have hr1' : rs.length = 5 := hr1
    have b0 : rs[0] < most - 1 := hr2 0 (by omega) (by simp)
    have b1 : rs[1] < longest := hr2 1 (by omega) (by simp)
    have b2 : rs[2] < 26 := hr2 2 (by omega) (by simp)
    have b3 : rs[3] < 6 := hr2 3 (by omega) (by simp)
    have a0 : atI (vsN rs) 0 = some (.int (rs[0] : Nat)) := at_vs (n := 0) rfl (by omega)
    have a1 : atI (vsN rs) 1 = some (.int (rs[1] : Nat)) := at_vs (n := 1) rfl (by omega)
    have a4 : atI (vsN rs) 4 = some (.int (rs[4] : Nat)) := at_vs (n := 4) rfl (by omega)
    clear hr2
    walk_at "rd"
    rw [show (2 : Int) + ((rs[0] : Nat) : Int) = ((2 + rs[0] : Nat) : Int) by rw [Int.natCast_add]; rfl]
    obtain ⟨m, hm⟩ : ∃ m, m = 2 + rs[0] := ⟨_, rfl⟩
    rw [← hm]
    have hm3 : 2 ≤ m := by omega
    have hm4 : m ≤ 6 := by omega
    refine ⟨o1, rs, m, by omega, rfl, f2, b2, b3, hm4, fun cs l3 H3 hcl hcn hcw hl3 e3 f3 => ?_⟩
    walk_at "rd"
    intro l4 H4 hl4 e4 f4
    have f2' : H3 o1 = some (.lst (vsN rs)) := by walk_at "lk"
    have f3' : H3 l3 = some (.lst (csV cs)) := by walk_at "lk"
    have f3'' : H4 l3 = some (.lst (csV cs)) := by walk_at "lk"
    have es : Same H H3 := e1.trans (e2.trans e3)
    have e4' := e4
    have hcv : (csV cs).length = m := by
      unfold csV
      rw [List.length_map, hcl]
    clear e1 e2 e3 e4 f1 f1' f2 f3 hl1' ho1 hl3
    walk_at "rd"
    refine forW (walk_enum (xs := csV cs)) (fun i σ H2 => ∃ (z7 z8 : Option V) (sg : List Sg) (xs : List V), σ = [some (.ref a), some (.int most), some (.int longest), some (.ref o1), some (.int m), some (.ref l3), some (.ref l4), z7, z8, none, none, none] ∧ Same H3 H2 ∧ H2 l4 = some (.lst xs) ∧ DqAll (L2.del H2 l4) xs (sg.map sgD) ∧ sg.map Sg.c = cs.take i ∧ (∀ s ∈ sg, SgOk s)) ⟨none, none, [], [], rfl, e4', f4, .nil, rfl, fun s hs => absurd hs List.not_mem_nil⟩ (fun i σ H2 _ ⟨_, _, _, _, _, e, _⟩ => by walk_at "lk") ?_ ?_
    · rintro i x σ G0 G1 hi ⟨z7, z8, sg, xs, rfl, g0, k4, dq, hsc, hso⟩ y
      obtain ⟨T1, x1, x2, rfl, hT, rfl, hx1, hx2⟩ := y
      have g1 : Same G0 (upd G0 T1 (.tup [x1, x2])) := Same.new hT
      have h1 : (upd G0 T1 (.tup [x1, x2])) T1 = some (.tup [x1, x2]) := upd_same
      revert g1 h1
      generalize upd G0 T1 (.tup [x1, x2]) = G1
      intro g1 h1
      obtain rfl : V.int (i : Nat) = x1 := Option.some.inj hx1
      have hi2 : i < cs.length := by omega
      obtain rfl : V.str (S [cs[i]]) = x2 := by
        have hx2 : (csV cs)[i]? = some x2 := hx2
        unfold csV at hx2
        rw [List.getElem?_map, List.getElem?_eq_getElem hi2] at hx2
        exact Option.some.inj hx2
      have k4' : G1 l4 = some (.lst xs) := g1 _ _ k4
      have dq1 := dq.dels g1
      have gs : Same H3 G1 := g0.trans g1
      have ha1 : SqL K G1 a (ns.map V.int) := upL gs (upL es ha)
      have hxl := dq.length
      rw [List.length_map] at hxl
      have hsl := congrArg List.length hsc
      rw [List.length_map, List.length_take] at hsl
      clear g0 dq k4
      walk_at "rd"
      refine ⟨a, ns, 1 + i, by rw [Int.natCast_add]; rfl, ha1, fun ck => ?_⟩
      walk_at "rd"
      refine ⟨ck, i, S [cs[i]], _, rfl, by omega, fun p l v2 v3 T G2 hp hl hT2 s2 h2 d2 d3 => ?_⟩
      have k4'' : G2 l4 = some (.lst xs) := s2 _ _ k4'
      have nT : T ≠ l4 := (ne1 hT2 k4').symm
      walk_at "rd"
      intro G3 b3 h3
      refine ⟨_, _, sg ++ [⟨cs[i], p, l⟩], xs ++ [.ref T], rfl, Same.but b3 hl4 (gs.trans s2), h3, ?_, ?_, ?_⟩
      · rw [List.map_append]
        refine DqAll.app ((dq1.dels s2).up (delB b3)) (.cons (.tup (delB b3 _ _ (delG h2 nT)) (.cons (.str _ (by show (S [cs[i]]).length ≤ _; rw [M.S_len, List.length_singleton]; decide)) (.cons ((fr_del d2 k4'').up (delB b3)) (.cons ((last_del d3 k4'').up (delB b3)) .nil))) (by simp)) .nil)
      · rw [List.map_append, hsc, ← List.take_append_getElem hi2]
        rfl
      · intro s hs
        rcases List.mem_append.mp hs with hs | hs
        · exact hso s hs
        · rw [List.mem_singleton.mp hs]
          exact ⟨hcw _ (List.getElem_mem hi2), hp, hl⟩
    rintro σ G0 ⟨z7, z8, sg, xs, rfl, g0, k4, dq, hsc, hso⟩
    rw [hcv, ← hcl, List.take_length] at hsc
    have hsl := congrArg List.length hsc
    rw [List.length_map] at hsl
    have dq0 : DqAll G0 xs (sg.map sgD) := dq.up del_sub
    have k2 : G0 o1 = some (.lst (vsN rs)) := g0 _ _ f2'
    have k3 : G0 l3 = some (.lst (csV cs)) := g0 _ _ f3'
    have ee : Same H G0 := es.trans g0
    have ha0 : SqL K G0 a (ns.map V.int) := upL ee ha
    clear g0 dq f2' f3' f3'' f4 es hl4
    walk_at "rd"
    refine ⟨a, ns, 7, rfl, ha0, fun ck => ?_⟩
    walk_at "rd"
    intro q1 G1 n1 s1 h1
    walk_at "rd"
    intro q2 G2 n2 s2 h2
    walk_at "rd"
    rw [show ((m : Nat) : Int) + ((m : Nat) : Int) * ((m : Nat) : Int) = ((m + m * m : Nat) : Int) by rw [Int.natCast_add, Int.natCast_mul]]
    have hmm : m * m ≤ 36 := Nat.mul_le_mul hm4 hm4
    refine r_rep (xs := [V.int 6]) (by walk_at "lk") (by simp only [List.length_cons, List.length_nil]; omega) (by omega) (fun q3 G3 n3 s3 h3 => ?_)
    have h3' : G3 q3 = some (.lst (List.replicate (m + m * m) (V.int 6))) := by
      rw [h3]
      congr 2
      exact repl1 _ _
    have hrl : (List.replicate (m + m * m) (V.int 6)).length ≤ 100 := by
      rw [List.length_replicate]
      omega
    walk_at "rd"
    intro q4 G4 n4 s4 h4
    walk_at "rd"
    intro q5 G5 n5 s5 h5
    walk_at "rd"
    intro q6 G6 n6 s6 h6
    have h6' : G6 q6 = some (.lst (vsN ([3] ++ List.replicate (m + m * m) 6 ++ [2]))) := by
      rw [h6]
      unfold vsN
      rw [List.map_append, List.map_append, List.map_replicate]
      rfl
    walk_at "rd"
    refine ⟨ck, 7, q6, [3] ++ List.replicate (m + m * m) 6 ++ [2], rfl, by decide, by simp; omega, h6', fun z hz => ?_, fun bs o2 G7 hd ho2 s7 h7 => ?_⟩
    · rcases List.mem_append.mp hz with hz | hz
      · rcases List.mem_append.mp hz with hz | hz
        · rw [List.mem_singleton.mp hz]; decide
        · rw [(List.mem_replicate.mp hz).2]; decide
      · rw [List.mem_singleton.mp hz]; decide
    have hbl : bs.length = 2 + m + m * m := by
      rw [hd.1]
      simp
      omega
    have j2 : G7 o1 = some (.lst (vsN rs)) := by walk_at "lk"
    have j3 : G7 l3 = some (.lst (csV cs)) := by walk_at "lk"
    have j4 : G7 l4 = some (.lst xs) := by walk_at "lk"
    have se : Same G0 G7 := s1.trans (s2.trans (s3.trans (s4.trans (s5.trans (s6.trans s7)))))
    have e7 : Same H G7 := ee.trans se
    have dq7 := dq0.up se
    have c0 : atI (vsN bs) 0 = some (.int (bs[0] : Nat)) := at_vs (n := 0) rfl (by omega)
    clear hd se dq0 ee k2 k3 k4 s1 s2 s3 s4 s5 s6 s7 h1 h2 h3 h3' h4 h5 h6 h6' n1 n2 n3 n4 n5 n6 ho2 ha0
    have hxl := dq7.length
    rw [List.length_map] at hxl
    walk_at "rd"
    refine r_ite (fun hb => ?_) (fun hb => ?_)
    · walk_at "rd"
      intro u1 K1 m1 t1 r1
      walk_at "rd"
      intro u2 K2 m2 t2 r2
      walk_at "rd"
      rw [show (1 : Int) + ((rs[1] : Nat) : Int) = ((1 + rs[1] : Nat) : Int) by rw [Int.natCast_add]; rfl]
      intro u3 K3 m3 t3 r3
      have g := tg_mk (sg := sg) (fs := []) (ks := []) (lo := 1 + rs[1]) (by omega) (by omega) hso (by rw [hsc]; exact hcn) (List.nil_sublist _) (List.nil_sublist _) (by omega) (by omega)
      refine q _ u3 l4 u1 u2 xs K3 g (e7.trans (t1.trans (t2.trans t3))) ⟨rfl, r3, by walk_at "lk", dq7.up (t1.trans (t2.trans t3)), by walk_at "lk", by walk_at "lk", by simp, by simp, by simp, by show sg.length ≤ 100; omega⟩
    · walk_at "rd"
      refine lcWw (σ0 := [some (.ref a), some (.int most), some (.int longest), some (.ref o1), some (.int m), some (.ref l3), some (.ref l4), none, none, some (.ref o2), none, none]) rfl rfl ?_
      refine lcW (walk_enum (xs := csV cs)) (fun i acc _ => ∃ fs, acc = csV fs ∧ fs.Sublist (cs.take i)) rfl (fun _ _ => by walk_at "lk") (fun _ _ => ⟨[], rfl, List.nil_sublist _⟩) ?_ ?_
      · rintro i x acc Dl K1 K2 hi hD t1 t2 hl2 ⟨fs, rfl, hfs⟩ y
        obtain ⟨T1, x1, x2, rfl, hT, rfl, hx1, hx2⟩ := y
        have g1 : Same K1 (upd K1 T1 (.tup [x1, x2])) := Same.new hT
        have h1 : (upd K1 T1 (.tup [x1, x2])) T1 = some (.tup [x1, x2]) := upd_same
        revert g1 h1
        generalize upd K1 T1 (.tup [x1, x2]) = K2
        intro g1 h1
        obtain rfl : V.int (i : Nat) = x1 := Option.some.inj hx1
        have hi2 : i < cs.length := by omega
        obtain rfl : V.str (S [cs[i]]) = x2 := by
          have hx2 : (csV cs)[i]? = some x2 := hx2
          unfold csV at hx2
          rw [List.getElem?_map, List.getElem?_eq_getElem hi2] at hx2
          exact Option.some.inj hx2
        have c1 : atI (vsN bs) (1 + ((i : Nat) : Int)) = some (.int (bs[1 + i]'(by rw [hbl]; omega) : Nat)) := at_vs (n := 1 + i) (by omega) (by rw [hbl]; omega)
        have h7' : K2 o2 = some (.lst (vsN bs)) := g1 _ _ (t1 _ _ h7)
        have t2' : K2 Dl = some (.lst (csV fs)) := g1 _ _ t2
        have t3 : Same G7 K2 := t1.trans g1
        have tk : cs.take (i + 1) = cs.take i ++ [cs[i]] := (List.take_append_getElem hi2).symm
        walk_at "rd"
        refine r_ite (fun hb1 => ?_) (fun hb1 => ?_)
        · walk_at "rd"
          refine lc_put (by omega) hD t3 t2' hl2 fun H5 _ _ => ⟨fs ++ [cs[i]], ?_, ?_⟩
          · unfold csV
            rw [List.map_append]
            rfl
          · rw [tk]
            exact List.Sublist.append hfs (List.Sublist.refl _)
        · exact lc_skip t3 t2' hl2 ⟨fs, rfl, by rw [tk]; exact hfs.trans (List.sublist_append_left _ _)⟩
      rintro acc lf K1 hlf t1 r1 ⟨fs, rfl, hfs⟩
      rw [hcv, ← hcl, List.take_length] at hfs
      have j3' : K1 l3 = some (.lst (csV cs)) := t1 _ _ j3
      have h7' : K1 o2 = some (.lst (vsN bs)) := t1 _ _ h7
      walk_at "rd"
      intro lp K2 hlp t2 r2
      have j3'' : K2 l3 = some (.lst (csV cs)) := t2 _ _ j3'
      have h7'' : K2 o2 = some (.lst (vsN bs)) := t2 _ _ h7'
      walk_at "rd"
      rw [show ((m : Nat) : Int) * ((m : Nat) : Int) = ((m * m : Nat) : Int) by rw [Int.natCast_mul]]
      refine forW walk_r0 (fun i σ H2 => ∃ (z7 : Option V) (ks : List Nat), σ = [some (.ref a), some (.int most), some (.int longest), some (.ref o1), some (.int m), some (.ref l3), some (.ref l4), z7, z8, some (.ref o2), some (.ref lf), some (.ref lp)] ∧ Same K1 H2 ∧ H2 lp = some (.lst ((ks.map (prS cs)).map V.str)) ∧ ks.Sublist (List.range i)) ⟨_, [], rfl, t2, r2, List.nil_sublist _⟩ (fun _ _ _ _ _ => trivial) ?_ ?_
      · rintro i x σ _ K3 hi ⟨z7, ks, rfl, t3, r3, hks⟩ ⟨rfl, rfl⟩
        have hi2 : i < m * m := by omega
        have pos : 0 < m := by omega
        have d1 : i / m < cs.length := by rw [hcl]; exact Nat.div_lt_of_lt_mul hi2
        have d2 : i % m < cs.length := by rw [hcl]; exact Nat.mod_lt _ pos
        have hkl : ks.length ≤ 36 := by
          have := hks.length_le
          rw [List.length_range] at this
          omega
        have g3 : K3 l3 = some (.lst (csV cs)) := t3 _ _ j3'
        have g7 : K3 o2 = some (.lst (vsN bs)) := t3 _ _ h7'
        have c1 : atI (vsN bs) (1 + ((m : Nat) : Int) + ((i : Nat) : Int)) = some (.int (bs[1 + m + i]'(by rw [hbl]; omega) : Nat)) := at_vs (n := 1 + m + i) (by omega) (by rw [hbl]; omega)
        have csAt : ∀ (j : Nat) (hj : j < cs.length), (csV cs)[j]? = some (.str (S [cs[j]])) := fun j hj => by
          unfold csV
          rw [List.getElem?_map, List.getElem?_eq_getElem hj]
          rfl
        have c2 : atI (csV cs) (((i : Nat) : Int) / ((m : Nat) : Int)) = some (.str (S [cs[i / m]])) := by
          rw [show ((i : Nat) : Int) / ((m : Nat) : Int) = ((i / m : Nat) : Int) by rw [Int.natCast_ediv]]
          exact atI_nat (csAt _ d1)
        have c3 : atI (csV cs) (((i : Nat) : Int) % ((m : Nat) : Int)) = some (.str (S [cs[i % m]])) := by
          rw [show ((i : Nat) : Int) % ((m : Nat) : Int) = ((i % m : Nat) : Int) by rw [Int.natCast_emod]]
          exact atI_nat (csAt _ d2)
        have ep : S [cs[i / m]] ++ S [cs[i % m]] = prS cs i := by
          unfold prS
          rw [S_app, hcl, List.getD_eq_getElem?_getD, List.getD_eq_getElem?_getD, List.getElem?_eq_getElem d1, List.getElem?_eq_getElem d2]
          rfl
        have lS : ∀ c, (S [c]).length = 1 := fun c => by rw [M.S_len]; rfl
        have hl5 : (((ks.map (prS cs)).map V.str)).length < 16777216 := by
          rw [List.length_map, List.length_map]
          omega
        have rk : List.range (i + 1) = List.range i ++ [i] := List.range_succ
        walk_at "rd"
        refine r_ite (fun hb1 => ?_) (fun hb1 => ?_)
        · walk_at "rd"
          intro K4 b4 r4
          rw [ep] at r4
          refine ⟨_, ks ++ [i], rfl, Same.but b4 hlp t3, ?_, by rw [rk]; exact List.Sublist.append hks (List.Sublist.refl _)⟩
          rw [r4, List.map_append, List.map_append]
          rfl
        · walk_at "rd"
          exact ⟨_, ks, rfl, t3, r3, by rw [rk]; exact hks.trans (List.sublist_append_left _ _)⟩
      rintro σ K3 ⟨z7', ks, rfl, t3, r3, hks⟩
      rw [show (((m * m : Nat) : Int)).toNat = m * m by omega] at hks
      have hkl : ks.length ≤ 36 := by
        have := hks.length_le
        rw [List.length_range] at this
        omega
      have hfl : fs.length ≤ 6 := by
        have := hfs.length_le
        omega
      have g7 : K3 o2 = some (.lst (vsN bs)) := t3 _ _ h7'
      obtain ⟨bz, hbz⟩ : ∃ x, bs.getLast? = some x := by
        cases e : bs.getLast? with
        | none => rw [List.getLast?_eq_none_iff] at e; rw [e] at hbl; simp at hbl; omega
        | some x => exact ⟨x, rfl⟩
      have hneg : atI (vsN bs) (-1) = some (.int (bz : Nat)) := at_neg1 (by
        unfold vsN
        rw [List.getLast?_map, hbz]
        rfl)
      have gt := tg_mk (sg := sg) (fs := fs) (ks := ks) (lo := 1 + rs[1]) (by omega) (by omega) hso (by rw [hsc]; exact hcn) (by rw [hsc]; exact hfs) (by rw [hsc, hcl]; exact hks) (by omega) (by omega)
      rw [hsc] at gt
      have ss : Same G7 K3 := t1.trans t3
      have gf : K3 lf = some (.lst ((fs.map fun c => S [c]).map V.str)) := by
        rw [List.map_map]
        exact t3 _ _ r1
      have gs : K3 l4 = some (.lst xs) := ss _ _ j4
      have gr : K3 o1 = some (.lst (vsN rs)) := ss _ _ j2
      have len1 : ∀ z ∈ (fs.map fun c => S [c]) ++ ks.map (prS cs), z.length ≤ 100 := fun z hz => by
        rcases List.mem_append.mp hz with hz | hz
        · obtain ⟨c, _, rfl⟩ := List.mem_map.mp hz
          rw [M.S_len]
          simp
        · obtain ⟨c, _, rfl⟩ := List.mem_map.mp hz
          unfold prS
          rw [M.S_len]
          simp
      have e8 : Same H K3 := e7.trans ss
      have dq8 := dq7.up ss
      clear ss t3 t1 j2 j3 j4 j3' j3'' h7 h7' h7'' r1 r2 t2 e7 dq7
      walk_at "rd"
      refine r_ite (fun hb1 => ?_) (fun hb1 => ?_)
      · walk_at "rd"
        intro u1 L1 m1 v1 w1
        walk_at "rd"
        intro u2 L2 m2 v2 w2
        walk_at "rd"
        rw [show (1 : Int) + ((rs[1] : Nat) : Int) = ((1 + rs[1] : Nat) : Int) by rw [Int.natCast_add]; rfl]
        intro u3 L3 m3 v3 w3
        rw [← List.map_reverse] at w1 w2
        refine q _ u3 l4 u1 u2 xs L3 gt.rev (e8.trans (v1.trans (v2.trans v3))) ⟨rfl, w3, by walk_at "lk", dq8.up (v1.trans (v2.trans v3)), by walk_at "lk", by walk_at "lk", ?_, ?_, fun z hz => len1 z ?_, by show sg.length ≤ 100; omega⟩
        · rw [List.length_reverse, List.length_map]
          omega
        · rw [List.length_reverse, List.length_map]
          omega
        · rcases List.mem_append.mp hz with hz | hz
          · exact List.mem_append_left _ (List.mem_reverse.mp hz)
          · exact List.mem_append_right _ (List.mem_reverse.mp hz)
      · walk_at "rd"
        rw [show (1 : Int) + ((rs[1] : Nat) : Int) = ((1 + rs[1] : Nat) : Int) by rw [Int.natCast_add]; rfl]
        intro u3 L3 m3 v3 w3
        exact q _ u3 l4 lf lp xs L3 gt (e8.trans v3) ⟨rfl, w3, by walk_at "lk", dq8.up v3, by walk_at "lk", by walk_at "lk", by show (fs.map _).length ≤ 100; rw [List.length_map]; omega, by show (ks.map _).length ≤ 100; rw [List.length_map]; omega, len1, by show sg.length ≤ 100; omega⟩
def sp_copy (K : PySem.W.Frag) : Sp := fun vs H Q _ => ∃ v t T a1 a2 a3 xs, vs = [v] ∧ TgAt H v t T a1 a2 a3 xs ∧ ∀ T' b1 b2 b3 H', Same H H' → TgAt H' (.ref T') t T' b1 b2 b3 xs → Q (.ref T') H'
theorem ok_law_copy (T : Txt K mg) : Z.C0 P w K mg base 1 "_law_copy" (sp_copy K) := by
  refine T.d_law_copy.c0 sc_law_copy (fun vs H Q E h => ?_) (Z.bd0 fun _ _ _ _ _ _ us hl => match us, hl with | [_], _ => rfl) (fun f cdv A outer s H vs Q E hr h => ⟨_, (pss_one (ps_ret (pe_tup (pa_cons (pe_callTy (k_list K) rfl T.b_list (by decide +kernel) (pa_cons (pe_ix (k_ix K) (pv 0) pe_int (fun _ _ => rfl)) pa_nil)) (pa_cons (pe_callTy (k_list K) rfl T.b_list (by decide +kernel) (pa_cons (pe_ix (k_ix K) (pv 0) pe_int (fun _ _ => rfl)) pa_nil)) (pa_cons (pe_callTy (k_list K) rfl T.b_list (by decide +kernel) (pa_cons (pe_ix (k_ix K) (pv 0) pe_int (fun _ _ => rfl)) pa_nil)) (pa_cons (pe_ix (k_ix K) (pv 0) pe_int (fun _ _ => rfl)) pa_nil))))))), ?_⟩)
  · obtain ⟨v, t, T, a1, a2, a3, xs, rfl, _⟩ := h
    rfl
  · obtain ⟨v, t, T, a1, a2, a3, xs, rfl, ht, q⟩ := h
    rw [st_law_copy]
    walk_at "st"
    obtain ⟨rfl, k0, k1, k2, k3, k4, w1, w2, w3, w4⟩ := ht
    have i0 : atI [V.ref a1, V.ref a2, V.ref a3, V.int (t.lo : Nat)] 0 = some (.ref a1) := rfl
    have i1 : atI [V.ref a1, V.ref a2, V.ref a3, V.int (t.lo : Nat)] 1 = some (.ref a2) := rfl
    have i2 : atI [V.ref a1, V.ref a2, V.ref a3, V.int (t.lo : Nat)] 2 = some (.ref a3) := rfl
    have i3 : atI [V.ref a1, V.ref a2, V.ref a3, V.int (t.lo : Nat)] 3 = some (.int (t.lo : Nat)) := rfl
    walk_at "rd"
    intro b1 H1 n1 s1 f1
    walk_at "rd"
    intro b2 H2 n2 s2 f2
    walk_at "rd"
    intro b3 H3 n3 s3 f3
    walk_at "rd"
    intro b4 H4 n4 s4 f4
    have ss : Same H H4 := s1.trans (s2.trans (s3.trans s4))
    refine q b4 b1 b2 b3 H4 ss ⟨rfl, f4, ?_, k2.up ss, ?_, ?_, w1, w2, w3, w4⟩
    · exact s4 _ _ (s3 _ _ (s2 _ _ f1))
    · exact s4 _ _ (s3 _ _ f2)
    · exact s4 _ _ f3
end
end My

namespace My
open PySem PySem.Spec PyProof.Rows L2 Z M SX TL
section
variable {P : Program} {w : World} {K : PySem.W.Frag} {mg : Str → Option Value} {base : Heap}
def raisM (K : PySem.W.Frag) (c : Str) (H : Hp) (E : XK) : Prop := ∀ H', Same H H' → E (.ref (He.ga K c)) none H'
theorem sg_tup {H : Hp} {v : V} {s : Sg} (h : Dq H v (sgD s)) : ∃ T v2 v3, v = .ref T ∧ H T = some (.tup [.str (S [s.c]), v2, v3]) ∧ Dq H v2 (fracD s.p) ∧ Dq H v3 (lastD s.l) := by
  cases h with
  | tup h1 h2 _ =>
    obtain ⟨u1, _, rfl, g1, h2⟩ := DqAll.cons_inv h2
    obtain ⟨u2, _, rfl, g2, h2⟩ := DqAll.cons_inv h2
    obtain ⟨u3, _, rfl, g3, h2⟩ := DqAll.cons_inv h2
    obtain rfl := DqAll.nil_inv h2
    rw [g1.strV] at h1
    exact ⟨_, _, _, rfl, h1, g2, g3⟩
theorem dq_fr {H : Hp} {a : Addr} {p : Nat × Nat} (h : H a = some (.tup (frV p))) : Dq H (.ref a) (fracD p) := .tup h (.cons (.int _) (.cons (.int _) .nil)) (by simp [frV])
theorem fr_dq {H : Hp} {v : V} {p : Nat × Nat} (h : Dq H v (fracD p)) : ∃ a, v = .ref a ∧ H a = some (.tup (frV p)) := dq_ints2 h
theorem sgs_map_take {sg : List Sg} {i : Nat} (f : Sg → Sg) (h : i < sg.length) : (sg.take (i + 1)).map (fun s => sgD (f s)) = (sg.take i).map (fun s => sgD (f s)) ++ [sgD (f sg[i])] := by
  rw [← List.take_append_getElem h, List.map_append]
  rfl
/-- a tongue told anew: its lists are new -/
def newTg (K : PySem.W.Frag) (t : Tg) (H : Hp) (Q : VK) : Prop := ∀ r rl fl pl rows H', Same H H' → H rl = none → H fl = none → H pl = none → rl ≠ fl → rl ≠ pl → fl ≠ pl → TgAt H' (.ref r) t r rl fl pl rows → Q (.ref r) H'
/-! ### called otherwise -/
def lettersOk (m : Nat) : PyData → Bool
  | .list ds => decide (ds.length = m) && (ds.all isLetter && decide ((ds.map strOf).Nodup))
  | _ => false
def trC (as cs : List Nat) (c : Nat) : Nat := cs.getD (as.idxOf c) 0
def trS (as cs : List Nat) (z : Str) : Str := S ((tl z).map (trC as cs))
def ltT (t : Tg) : List Nat := t.sg.map Sg.c
def trT (t : Tg) (cs : List Nat) : Tg := ⟨t.sg.map fun s => ⟨trC (ltT t) cs s.c, s.p, s.l⟩, t.fi.map (trS (ltT t) cs), t.pa.map (trS (ltT t) cs), t.lo⟩
theorem len_csV (cs : List Nat) : (csV cs).length = cs.length := by
  unfold csV
  rw [List.length_map]
theorem letters_vs {H : Hp} : ∀ {xs : List V} {ds : List PyData}, DqAll H xs ds → ds.all isLetter = true → ∃ cs, xs = csV cs ∧ ds = cs.map (fun c => PyData.str (S [c])) ∧ ∀ c ∈ cs, low c = true
  | _, _, .nil, _ => ⟨[], rfl, rfl, fun _ h => absurd h List.not_mem_nil⟩
  | _, _, .cons (v := v) (d := d) h r, e => by
    rw [List.all_cons, Bool.and_eq_true_iff] at e
    obtain ⟨cs, e1, e2, e3⟩ := letters_vs r e.2
    obtain ⟨c, rfl, rfl⟩ := letter_str h e.1
    refine ⟨c :: cs, by rw [e1]; rfl, by rw [e2]; rfl, fun x hx => ?_⟩
    rcases List.mem_cons.mp hx with rfl | hx
    · have : (decide ((tl (S [x])).length = 1) && (tl (S [x])).all low) = true := e.1
      have := (Bool.and_eq_true_iff.mp this).2
      rw [show tl (S [x]) = [x] from rfl, List.all_cons, Bool.and_eq_true_iff] at this
      exact this.1
    · exact e3 x hx
theorem letters_nd (cs : List Nat) : ((cs.map fun c => PyData.str (S [c])).map strOf).Nodup ↔ cs.Nodup := by
  rw [List.map_map]
  constructor
  · intro h
    exact (List.pairwise_map.mp h).imp fun {a b} q e => q (by rw [e])
  · intro h
    exact List.pairwise_map.mpr (h.imp fun {a b} q e => q (S1_inj e))
/-- what passes, in the heap -/
theorem letters_data {H : Hp} {y : V} {e : PyData} {m : Nat} (h : Dq H y e) (o : lettersOk m e = true) : ∃ b cs, y = .ref b ∧ H b = some (.lst (csV cs)) ∧ cs.length = m ∧ cs.Nodup ∧ (∀ c ∈ cs, low c = true) := by
  rcases h.split with ⟨rfl, rfl⟩ | ⟨b, rfl, rfl⟩ | ⟨i, rfl, rfl⟩ | ⟨z, rfl, rfl, hz⟩ | ⟨a, xs, ds, rfl, rfl, h1, h2, hn⟩ | ⟨a, xs, ds, rfl, rfl, h1, h2, hn⟩ | ⟨a, rfl, rfl, h1⟩
  case inr.inr.inr.inr.inl =>
    have o2 : (decide (ds.length = m) && (ds.all isLetter && decide ((ds.map strOf).Nodup))) = true := o
    rw [Bool.and_eq_true_iff, Bool.and_eq_true_iff, decide_eq_true_iff, decide_eq_true_iff] at o2
    obtain ⟨cs, rfl, rfl, e3⟩ := letters_vs h2 o2.2.1
    refine ⟨a, cs, rfl, h1, ?_, (letters_nd cs).mp o2.2.2, e3⟩
    have := o2.1
    rwa [List.length_map] at this
  all_goals cases o
theorem letters_ok {m : Nat} {cs : List Nat} (h1 : cs.length = m) (h2 : cs.Nodup) (h3 : ∀ c ∈ cs, low c = true) : lettersOk m (.list (cs.map fun c => PyData.str (S [c]))) = true := by
  show (decide ((cs.map fun c => PyData.str (S [c])).length = m) && ((cs.map fun c => PyData.str (S [c])).all isLetter && decide (((cs.map fun c => PyData.str (S [c])).map strOf).Nodup))) = true
  rw [decide_eq_true (by rw [List.length_map]; exact h1), decide_eq_true ((letters_nd cs).mpr h2), Bool.and_true, Bool.true_and, List.all_map]
  refine List.all_eq_true.mpr fun c hc => ?_
  show (decide ((tl (S [c])).length = 1) && (tl (S [c])).all low) = true
  rw [show tl (S [c]) = [c] from rfl, List.all_cons, h3 c hc]
  rfl
theorem dq_cs {H : Hp} (cs : List Nat) : DqAll H (csV cs) (cs.map fun c => PyData.str (S [c])) := by
  induction cs with
  | nil => exact .nil
  | cons c cs ih => exact .cons (.str _ (by rw [M.S_len, List.length_singleton]; decide)) ih
def sp_look_letters (K : PySem.W.Frag) : Sp := fun vs H Q E => ∃ x y t T a1 a2 a3 xs e, vs = [x, y] ∧ TgAt H x t T a1 a2 a3 xs ∧ t.sg.length ≤ 6 ∧ Dq H y e ∧ (lettersOk t.sg.length e = true → ∀ H', Same H H' → Q .non H') ∧ (lettersOk t.sg.length e = false → raisM K "NoTurn" H E)
theorem ok_is_letter_turning (T : Txt K mg) : Z.C0 P w K mg base 1 "is_letter_turning" (sp_is_letter) := by
  refine T.d_is_letter_turning.c0 sc_is_letter_turning (fun vs H Q E h => ?_) (Z.bd0 fun _ _ _ _ _ _ us hl => match us, hl with | [_], _ => rfl) (fun f cdv A outer s H vs Q E hr h => ⟨_, (pss_one (ps_ret (pe_and (pe_callB (k_isi K) rfl T.b_isinstance (by decide +kernel) (pa_cons (pv 0) (pa_cons (pe_bltn (v := .ty "str") rfl T.b_str (by decide +kernel) rfl) pa_nil))) (pe_and (pe_cmpR (k_eqP K hr.units) (pe_callB (k_len K) rfl T.b_len (by decide +kernel) (pa_cons (pv 0) pa_nil)) pe_int (nomark _)) (pe_one (pe_cmpR (k_inP K) (pv 0) (C8.pe_gc rfl T.c_LETTERS_turning) (by rfl))))))), ?_⟩)
  · obtain ⟨x, d, rfl, _⟩ := h
    rfl
  · obtain ⟨x, d, rfl, hd, q⟩ := h
    rw [st_is_letter_turning]
    walk_at "st"
    rcases hd.split with ⟨rfl, rfl⟩ | ⟨b, rfl, rfl⟩ | ⟨i, rfl, rfl⟩ | ⟨z, rfl, rfl, hz⟩ | ⟨a, xs, ds, rfl, rfl, h1, h2, hn⟩ | ⟨a, xs, ds, rfl, rfl, h1, h2, hn⟩ | ⟨a, rfl, rfl, h1⟩
    case inr.inr.inr.inl =>
      have el := len_tl z
      have q2 : Q (.bl (decide ((tl z).length = 1) && (tl z).all low)) H := q
      walk_at "rd"
      refine r_ite (fun h1 => ?_) (fun h1 => ?_)
      · have h2 : (tl z).length = 1 := by omega
        obtain ⟨c, hc⟩ := List.length_eq_one_iff.mp h2
        have ez : z = ⟨#[c]⟩ := by
          exact ext_tl (hc.trans rfl)
        rw [decide_eq_true h2, hc] at q2
        subst ez
        walk_at "rd"
        rw [low_mem]
        have e : (true && [c].all low) = low c := by simp
        rw [e] at q2
        exact q2
      · rw [decide_eq_false (by omega)] at q2
        walk_at "rd"
        exact q2
    all_goals
      walk_at "rd"
      exact q
theorem ok_look_at_letters (T : Txt K mg) : Z.CE P w K mg base 3 "look_at_letters" (sp_look_letters K) := by
  refine T.d_look_at_letters.ce sc_look_at_letters (fun vs H Q E h => ?_) (Z.bd0 fun _ _ _ _ _ _ us hl => match us, hl with | [_, _], _ => rfl) (fun f cdv A outer s H vs Q E hr h => ⟨_, (pss_cons (ps_if (PW.pt (pw_or (pt_not (pt_val (pe_callB (k_isi K) rfl T.b_isinstance (by decide +kernel) (pa_cons (pv 1) (pa_cons (pe_bltn (v := .ty "list") rfl T.b_list (by decide +kernel) rfl) pa_nil))))) (pw_or1 (pt_cmpR (k_neP K hr.units) (pe_callB (k_len K) rfl T.b_len (by decide +kernel) (pa_cons (pv 1) pa_nil)) (pe_callB (k_len K) rfl T.b_len (by decide +kernel) (pa_cons (pe_ix (k_ix K) (pv 0) pe_int (fun _ _ => rfl)) pa_nil)) (nomark _)))))
  (pss_one (ps_raiN K rfl (takes_of rfl rfl rfl rfl) (T.ex.s "NoTurn" (by simp)) rfl (pa_cons pe_str pa_nil))) pss_nil)
  (pss_one (ps_if (PW.pt (pw_or (pt_not (pt_val (pe_callB (k_all K rfl) rfl T.b_all (by decide +kernel) (pa_cons (pe_lc (own := [("one", 2)]) rfl sc_look_at_letters.nd (k_iL K (pv 1)) (blkOk_by (N := ["tongue", "letters", "one"]) (sc := defScope s_look_at_letters) (by decide +kernel)) (fun _ _ _ _ _ => (pg_name (i := 2) sc_look_at_letters.nd rfl (Or.inl rfl))) (fun _ _ _ _ _ => pts_nil) (fun _ _ _ _ _ => (pe_c0 (ok_is_letter_turning T) hr (by decide) rfl (pa_cons (pv 2) pa_nil)))) pa_nil)))) (pw_or1 (pt_cmpR (k_neP K hr.units) (pe_lenSetS K rfl rfl T.b_len rfl T.b_set (pv 1)) (pe_callB (k_len K) rfl T.b_len (by decide +kernel) (pa_cons (pv 1) pa_nil)) (nomark _)))))
  (pss_one (ps_raiN K rfl (takes_of rfl rfl rfl rfl) (T.ex.s "NoTurn" (by simp)) rfl (pa_cons pe_str pa_nil))) pss_nil))), ?_⟩)
  · obtain ⟨x, y, t, T, a1, a2, a3, xs, e, rfl, _⟩ := h
    rfl
  · obtain ⟨x, y, t, T, a1, a2, a3, xs, e, rfl, hx, hm6, hy, q1, q2⟩ := h
    rw [st_look_at_letters]
    walk_at "st"
    obtain ⟨rfl, k0, k1, k2, k3, k4, w1, w2, w3, w4⟩ := hx
    have hxl := k2.length
    rw [List.length_map] at hxl
    have i0 : atI [V.ref a1, V.ref a2, V.ref a3, V.int (t.lo : Nat)] 0 = some (.ref a1) := rfl
    have bad : lettersOk t.sg.length e = false → ∀ H', Same H H' → E (.ref (He.ga K "NoTurn")) none H' := q2
    rcases hy.split with ⟨rfl, rfl⟩ | ⟨b, rfl, rfl⟩ | ⟨n, rfl, rfl⟩ | ⟨z, rfl, rfl, hz⟩ | ⟨b, ys, es, rfl, rfl, y1, y2, yn⟩ | ⟨b, ys, es, rfl, rfl, y1, y2, yn⟩ | ⟨b, rfl, rfl, y1⟩
    case inr.inr.inr.inr.inl =>
      have hyl := y2.length
      have el : lettersOk t.sg.length (.list es) = (decide (es.length = t.sg.length) && (es.all isLetter && decide ((es.map strOf).Nodup))) := rfl
      walk_at "rd"
      refine r_nite (fun h1 => ?_) (fun h1 => ?_)
      · walk_at "rd"
        exact ⟨by decide, bad (by rw [el, decide_eq_false (by omega)]; rfl) _ (Same.refl _)⟩
      · have hn : es.length = t.sg.length := by omega
        rw [el, decide_eq_true hn, Bool.true_and] at bad q1
        walk_at "rd"
        refine lcW (walk_list (xs := ys)) (fun i acc _ => acc = ((es.take i).map isLetter).map V.bl) rfl (fun _ _ => by walk_at "lk") (fun _ _ => rfl) ?_ ?_
        · rintro i x acc Dl H1 H2 hi hD e1 e2 hl2 rfl y
          obtain ⟨rfl, hx⟩ := y
          have hi2 : i < es.length := by omega
          obtain rfl : ys[i] = x := Option.some.inj ((List.getElem?_eq_getElem hi).symm.trans hx)
          have gi := y2.get i hi hi2
          walk_at "rd"
          refine ⟨ys[i], es[i], rfl, gi.up e1, ?_⟩
          refine lc_put (by omega) hD e1 e2 hl2 fun H5 _ _ => ?_
          rw [← List.take_append_getElem hi2, List.map_append, List.map_append]
          rfl
        rintro acc Dl H1 hD e1 e2 rfl
        rw [hyl, List.take_length] at e2
        walk_at "rd"
        refine r_all (sqL e2) ?_
        rw [all_mapD]
        cases hal : es.all isLetter with
        | false =>
          walk_at "rd"
          exact ⟨by decide, bad (by rw [hal]; rfl) _ e1⟩
        | true =>
          rw [hal, Bool.true_and] at bad q1
          obtain ⟨cs, rfl, rfl, hlow⟩ := letters_vs y2 hal
          have y1' : H1 b = some (.lst (csV cs)) := e1 _ _ y1
          have hcl : cs.length ≤ 6 := by
            rw [List.length_map] at hn
            omega
          walk_at "rd"
          refine ⟨b, cs.map fun c => S [c], rfl, sqL (by rw [List.map_map]; exact y1'), by rw [List.length_map]; omega, ?_⟩
          walk_at "rd"
          have hnd := cntS_nd (cs.map fun c => S [c]) (cs.map fun c => S [c]).length (Nat.le_refl _)
          rw [List.take_length] at hnd
          have e3 : ((cs.map fun c => PyData.str (S [c])).map strOf) = cs.map fun c => S [c] := by
            rw [List.map_map]
            rfl
          rw [e3] at bad q1
          refine r_nite (fun h2 => ?_) (fun h2 => ?_)
          · walk_at "rd"
            refine ⟨by decide, bad (decide_eq_false fun z => h2 ?_) _ e1⟩
            have := hnd.mpr z
            rw [this, List.length_map, len_csV]
          · walk_at "rd"
            refine q1 (decide_eq_true (hnd.mp ?_)) _ e1
            rw [len_csV] at h2
            rw [List.length_map] at h2 ⊢
            omega
    all_goals
      walk_at "rd"
      exact ⟨by decide, bad rfl _ (Same.refl _)⟩
/-! called -/
theorem idx_at {as : List Nat} {c : Nat} (h : c ∈ as) : ∃ h1 : as.idxOf c < as.length, as[as.idxOf c] = c := ⟨List.idxOf_lt_length_of_mem h, List.getElem_idxOf (List.idxOf_lt_length_of_mem h)⟩
theorem paired_of {P : Addr → Key × V → Prop} : ∀ {ps : List Addr} {kvs : List (Key × V)}, ps.length = kvs.length → (∀ j (h1 : j < ps.length) (h2 : j < kvs.length), P ps[j] kvs[j]) → Paired P ps kvs
  | [], [], _, _ => .nil
  | [], _ :: _, h, _ => by cases h
  | _ :: _, [], h, _ => by cases h
  | p :: ps, k :: kvs, h, q => .cons (q 0 (by simp) (by simp)) (paired_of (Nat.succ.inj h) fun j h1 h2 => q (j + 1) (by simpa using h1) (by simpa using h2))
def sp_called (K : PySem.W.Frag) : Sp := fun vs H Q _ => ∃ x b z t T a1 a2 a3 xs cs, vs = [x, .ref b, .str z] ∧ TgAt H x t T a1 a2 a3 xs ∧ t.sg.length ≤ 6 ∧ (ltT t).Nodup ∧ H b = some (.lst (csV cs)) ∧ cs.length = t.sg.length ∧ (∀ c ∈ tl z, c ∈ ltT t) ∧ z.length ≤ 1000 ∧ ∀ H', Same H H' → Q (.str (trS (ltT t) cs z)) H'
theorem ok_called (T : Txt K mg) : Z.C0 P w K mg base 1 "called" (sp_called K) := by
  refine T.d_called.c0 sc_called (fun vs H Q E h => ?_) (Z.bd0 fun _ _ _ _ _ _ us hl => match us, hl with | [_, _, _], _ => rfl) (fun f cdv A outer s H vs Q E hr h => ⟨_, (pss_cons (ps_set (i := 3) sc_called.nd rfl (Or.inr rfl) (pe_callTy (k_dictP K rfl) rfl T.b_dict (by decide +kernel) (pa_cons (pe_lc (own := [("row", 4), ("letter", 5)]) rfl sc_called.nd (k_iZ K (by rfl) T.b_zip (pa_cons (pe_ix (k_ix K) (pv 0) pe_int (fun _ _ => rfl)) (pa_cons (pv 1) pa_nil))) (blkOk_by (N := ["tongue", "letters", "text", "names", "row", "letter", "sign"]) (sc := defScope s_called) (by decide +kernel)) (fun _ _ _ _ _ => (k_tup (n := 2) K rfl (pgs_cons (pg_name (i := 4) sc_called.nd rfl (Or.inl rfl)) (pgs_cons (pg_name (i := 5) sc_called.nd rfl (Or.inl rfl)) pgs_nil)))) (fun _ _ _ _ _ => pts_nil) (fun _ _ _ _ _ => (pe_tup (pa_cons (pe_ix (k_ix K) (pv 4) pe_int (fun _ _ => rfl)) (pa_cons (pv 5) pa_nil))))) pa_nil)))
  (pss_one (ps_ret (k_bm K PySem.F.plainAttrs_str PySem.F.slot_str_join PySem.F.type_str_join (k_join K) pe_str (pa_cons (pe_lc (own := [("sign", 6)]) rfl sc_called.nd (pi_str (pv 2)) (blkOk_by (N := ["tongue", "letters", "text", "names", "row", "letter", "sign"]) (sc := defScope s_called) (by decide +kernel)) (fun _ _ _ _ _ => (pg_name (i := 6) sc_called.nd rfl (Or.inl rfl))) (fun _ _ _ _ _ => pts_nil) (fun _ _ _ _ _ => (pe_dget (Z.hu1 hr.units) (pv 3) (pv 6) (fun _ _ => rfl)))) pa_nil))))), ?_⟩)
  · obtain ⟨x, b, z, t, T, a1, a2, a3, xs, cs, rfl, _⟩ := h
    rfl
  · obtain ⟨x, b, z, t, T, a1, a2, a3, xs, cs, rfl, hx, hm6, hnd, hb, hcl, hz, hzl, q⟩ := h
    rw [st_called]
    walk_at "st"
    obtain ⟨rfl, k0, k1, k2, k3, k4, w1, w2, w3, w4⟩ := hx
    have hxl := k2.length
    rw [List.length_map] at hxl
    have i0 : atI [V.ref a1, V.ref a2, V.ref a3, V.int (t.lo : Nat)] 0 = some (.ref a1) := rfl
    walk_at "rd"
    have hl6 : (ltT t).length ≤ 6 := by
      unfold ltT
      rw [List.length_map]
      exact hm6
    have hll : (ltT t).length = t.sg.length := by
      unfold ltT
      rw [List.length_map]
    refine lcW2 (walk_zip (xs := xs) (ys := csV cs) (n := (csV cs).length) (by rw [len_csV]; omega)) (fun Dl i acc H' => ∃ ps : List Addr, acc = ps.map V.ref ∧ ps.length = i ∧ ∀ j (h1 : j < ps.length) (h2 : j < (ltT t).length) (h3 : j < cs.length), (L2.del H' Dl) ps[j] = some (.tup [.str (S [(ltT t)[j]]), .str (S [cs[j]])])) rfl (fun H' e => ⟨by walk_at "lk", by walk_at "lk"⟩) (fun _ _ _ _ => ⟨[], rfl, rfl, fun j h1 => absurd h1 (Nat.not_lt_zero _)⟩) ?_ ?_
    · rintro i x acc Dl G0 G1 hi hD g3 g4 hl3 ⟨ps, rfl, hps, hpj⟩ y
      obtain ⟨T1, x1, x2, rfl, hT, rfl, hx1, hx2⟩ := y
      have e3 : Same G0 (upd G0 T1 (.tup [x1, x2])) := Same.new hT
      have f3 : (upd G0 T1 (.tup [x1, x2])) T1 = some (.tup [x1, x2]) := upd_same
      revert e3 f3
      generalize upd G0 T1 (.tup [x1, x2]) = G1
      intro e3 f3
      have hi0 : i < cs.length := by
        rw [len_csV] at hi
        omega
      have hi2 : i < xs.length := by omega
      have hi3 : i < t.sg.length := by omega
      obtain rfl : xs[i] = x1 := Option.some.inj ((List.getElem?_eq_getElem hi2).symm.trans hx1)
      obtain rfl : V.str (S [cs[i]]) = x2 := by
        have hx2 : (csV cs)[i]? = some x2 := hx2
        unfold csV at hx2
        rw [List.getElem?_map, List.getElem?_eq_getElem hi0] at hx2
        exact Option.some.inj hx2
      have gi : Dq H xs[i] (sgD t.sg[i]) := by
        have := k2.get i hi2 (by rw [List.length_map]; exact hi3)
        rwa [List.getElem_map] at this
      obtain ⟨Ts, v2, v3, ex, hTs, d2, d3⟩ := sg_tup gi
      rw [ex] at f3
      have es : Same H G1 := g3.trans e3
      have g5 : G1 Dl = some (.lst (ps.map V.ref)) := e3 _ _ g4
      have hTs1 : G1 Ts = some (.tup [.str (S [t.sg[i].c]), v2, v3]) := es _ _ hTs
      have j0 : atI [V.str (S [t.sg[i].c]), v2, v3] 0 = some (.str (S [t.sg[i].c])) := rfl
      walk_at "rd"
      intro T2 G2 hT2 s2 h2
      have nT : T2 ≠ Dl := (ne1 hT2 g5).symm
      have g6 : G2 Dl = some (.lst (ps.map V.ref)) := s2 _ _ g5
      refine lc_put (by omega) hD (es.trans s2) g6 hl3 fun H5 b5 _ => ⟨ps ++ [T2], by rw [List.map_append]; rfl, by rw [List.length_append, hps]; rfl, fun j q1 q2 q3 => ?_⟩
      by_cases hj : j < ps.length
      · rw [List.getElem_append_left hj]
        exact delB b5 _ _ (delS s2 _ _ (delS e3 _ _ (hpj j hj q2 q3)))
      · rw [List.length_append, List.length_singleton] at q1
        have : j = i := by omega
        subst this
        rw [List.getElem_append_right (by omega)]
        have e9 : (ltT t)[j] = t.sg[j].c := List.getElem_map Sg.c
        simp only [List.getElem_singleton]
        rw [e9]
        exact delB b5 _ _ (delG h2 nT)
    rintro acc Dl G0 hD g3 g4 ⟨ps, rfl, hps, hpj⟩
    have hps2 : ps.length = cs.length := by
      rw [hps, len_csV]
    let kvs : List (Key × V) := (ltT t).zip cs |>.map fun p => ((.inr (S [p.1]) : Key), V.str (S [p.2]))
    have hkl : kvs.length = cs.length := by
      show (((ltT t).zip cs).map _).length = _
      rw [List.length_map, List.length_zip]
      omega
    have hk : ∀ j (h1 : j < kvs.length) (h2 : j < (ltT t).length) (h3 : j < cs.length), kvs[j] = (.inr (S [(ltT t)[j]]), .str (S [cs[j]])) := fun j h1 h2 h3 => by
      show (((ltT t).zip cs).map _)[j] = _
      rw [List.getElem_map, List.getElem_zip]
    have hkn : (kvs.map (·.1)).Nodup := by
      have e : kvs.map (·.1) = (ltT t).map fun c => (.inr (S [c]) : Key) := by
        show (((ltT t).zip cs).map _).map _ = _
        rw [List.map_map]
        refine List.ext_getElem (by rw [List.length_map, List.length_map, List.length_zip]; omega) fun i h1 h2 => ?_
        rw [List.getElem_map, List.getElem_map, List.getElem_zip]
        rfl
      rw [e]
      exact List.pairwise_map.mpr (hnd.imp fun {a b} q e => q (S1_inj (Sum.inr.inj e)))
    have hpp : Paired (fun p kv => SqT K G0 p [kV kv.1, kv.2]) ps kvs := paired_of (by omega) fun j h1 h2 => by
      have q3 : j < cs.length := by omega
      have q4 : j < (ltT t).length := by omega
      have := del_sub _ _ (hpj j h1 q4 q3)
      rw [hk j h2 q4 q3]
      exact sqT this
    walk_at "rd"
    refine r_dictP (sqL g4) hpp (fun nd G1 hnd1 s1 h1 => ?_)
    have es1 : Same H G1 := g3.trans s1
    have hsc : ∀ c, c ∈ ltT t → valV (mergeK [] kvs) (.inr (S [c])) = some (.str (S [trC (ltT t) cs c])) := fun c hc => by
      obtain ⟨q1, q2⟩ := idx_at hc
      have q3 : (ltT t).idxOf c < cs.length := by omega
      have q4 : (ltT t).idxOf c < kvs.length := by omega
      have := merge_at hkn q4
      rw [hk _ q4 q1 q3, q2] at this
      rw [this]
      unfold trC
      rw [List.getD_eq_getElem?_getD, List.getElem?_eq_getElem q3]
      rfl
    clear hpp hkn hk g3 s1
    walk_at "rd"
    refine lcW walk_str (fun i acc _ => acc = ((((tl z).take i).map (trC (ltT t) cs)).map fun c => S [c]).map V.str) rfl (fun _ _ => trivial) (fun _ _ => rfl) ?_ ?_
    · rintro i x acc D2 _ G2 hi hD2 s2 h2 hl2 rfl ⟨rfl, c, hc, rfl⟩
      have hc2 : (tl z)[i]? = some c := by simpa [tl] using hc
      have hcm : c ∈ ltT t := hz c (List.mem_of_getElem? hc2)
      have h1' : G2 nd = some (.dK (mergeK [] kvs)) := s2 _ _ h1
      have hil : i < (tl z).length := (List.getElem?_eq_some_iff.mp hc2).1
      have hzl2 : (tl z).length ≤ 1000 := by rw [← len_tl]; exact hzl
      walk_at "rd"
      refine ⟨nd, .str (S [trC (ltT t) cs c]), rfl, ?_, ?_⟩
      · have := DGet.k (k := .inr (S [c])) h1'
        rwa [hsc c hcm] at this
      · refine lc_put (by omega) hD2 s2 h2 hl2 fun H5 _ _ => ?_
        rw [List.take_add_one, hc2]
        simp
    · rintro acc D2 G2 hD2 s2 h2 rfl
      have en : z.cps.size = (tl z).length := by simp [tl]
      have hzl2 : (tl z).length ≤ 1000 := by rw [← len_tl]; exact hzl
      rw [en, List.take_length] at h2
      walk_at "rd"
      rw [show Str.ofString "" = S [] by decide +kernel]
      walk_at "rd"
      refine r_join1 (sqL h2) (by rw [List.length_map]; omega) ?_
      exact q G2 (es1.trans s2)
end
end My

namespace My
open PySem PySem.Spec PyProof.Rows L2 Z M SX TL
section
variable {P : Program} {w : World} {K : PySem.W.Frag} {mg : Str → Option Value} {base : Heap}
structure LtOk (t : Tg) (cs : List Nat) : Prop where
  n : cs.length = t.sg.length
  d : cs.Nodup
  w : ∀ c ∈ cs, low c = true
theorem LtOk.ok {t : Tg} {cs : List Nat} (h : LtOk t cs) : lettersOk t.sg.length (.list (cs.map fun c => PyData.str (S [c]))) = true := letters_ok h.n h.d h.w
def Chars (t : Tg) (z : Str) : Prop := (∀ c ∈ tl z, c ∈ ltT t) ∧ z.length ≤ 1000
def badT (K : PySem.W.Frag) (H : Hp) (x y : V) (E : XK) : Prop := (∃ d v, Dq H x d ∧ tongueErr d = some v ∧ rais K "NoTongue" "part" v H E) ∨
  (∃ t T a1 a2 a3 xs e, TgOk t ∧ TgAt H x t T a1 a2 a3 xs ∧ Dq H y e ∧ lettersOk t.sg.length e = false ∧ raisM K "NoTurn" H E)
theorem fi_chars {t : Tg} (h : TgOk t) : ∀ z ∈ t.fi, Chars t z := fun z hz => by
  have q := h.f1 z hz
  obtain ⟨s, hs, rfl⟩ := List.mem_map.mp q
  refine ⟨fun c hc => ?_, by rw [M.S_len, List.length_singleton]; decide⟩
  have : c = s.c := List.mem_singleton.mp hc
  exact this ▸ List.mem_map.mpr ⟨s, hs, rfl⟩
theorem lt_of {t : Tg} {c : Nat} (h : S [c] ∈ lettersT t) : c ∈ ltT t := by
  obtain ⟨s, hs, e⟩ := List.mem_map.mp h
  exact (S1_inj e) ▸ List.mem_map.mpr ⟨s, hs, rfl⟩
theorem pa_chars {t : Tg} (h : TgOk t) : ∀ z ∈ t.pa, Chars t z := fun z hz => by
  obtain ⟨a, b, rfl, ha, hb⟩ := h.p1 z hz
  refine ⟨fun c hc => ?_, by rw [M.S_len]; show 2 ≤ 1000; decide⟩
  have hc2 : c ∈ [a, b] := hc
  simp only [List.mem_cons, List.not_mem_nil, or_false] at hc2
  rcases hc2 with rfl | rfl
  · exact lt_of ha
  · exact lt_of hb
theorem trS_len (as cs : List Nat) (z : Str) : (trS as cs z).length = z.length := by
  unfold trS
  rw [M.S_len, List.length_map, len_tl]
def sp_ttext (K : PySem.W.Frag) : Sp := fun vs H Q E => ∃ x y u, vs = [x, y, u] ∧ (badT K H x y E ∨ (∃ t T a1 a2 a3 xs b cs z, TgOk t ∧ TgAt H x t T a1 a2 a3 xs ∧ y = .ref b ∧ H b = some (.lst (csV cs)) ∧ LtOk t cs ∧ u = .str z ∧ Chars t z ∧ ∀ H', Same H H' → Q (.str (trS (ltT t) cs z)) H'))
theorem ok_turned_text (T : Txt K mg) : Z.CE P w K mg base 7 "turned_text" (sp_ttext K) := by
  refine T.d_turned_text.ce sc_turned_text (fun vs H Q E h => ?_) (Z.bd0 fun _ _ _ _ _ _ us hl => match us, hl with | [_, _, _], _ => rfl) (fun f cdv A outer s H vs Q E hr h => ⟨_, (pss_cons (ps_expr (pe_ce (ok_look_at_tongue T) hr (by decide) rfl (takes_of rfl rfl rfl rfl) (pa_cons (pv 0) pa_nil)))
  (pss_cons (ps_expr (pe_ce (ok_look_at_letters T) hr (by decide) rfl (takes_of rfl rfl rfl rfl) (pa_cons (pv 0) (pa_cons (pv 1) pa_nil))))
  (pss_one (ps_ret (pe_c0 (ok_called T) hr (by decide) rfl (pa_cons (pv 0) (pa_cons (pv 1) (pa_cons (pv 2) pa_nil)))))))), ?_⟩)
  · obtain ⟨x, y, u, rfl, _⟩ := h
    rfl
  · obtain ⟨x, y, u, rfl, q⟩ := h
    rw [st_turned_text]
    walk_at "st"
    walk_at "rd"
    rcases q with (⟨d, v, hd, he, q⟩ | ⟨t, T1, a1, a2, a3, xs, e, ht, hx, hy, hl, q⟩) | ⟨t, T1, a1, a2, a3, xs, b, cs, z, ht, hx, rfl, hb, hl, rfl, hz, q⟩
    · refine ⟨x, d, rfl, hd, ?_⟩
      rw [he]
      exact q
    · refine ⟨x, tgD t, rfl, hx.dq, ?_⟩
      rw [tgErr_ok ht]
      intro H1 e1
      walk_at "rd"
      refine ⟨x, y, t, T1, a1, a2, a3, xs, e, rfl, hx.up e1, ht.n2, hy.up e1, fun h => (by rw [hl] at h; cases h), fun _ H2 e2 => q H2 (e1.trans e2)⟩
    · refine ⟨x, tgD t, rfl, hx.dq, ?_⟩
      rw [tgErr_ok ht]
      intro H1 e1
      have hb1 := e1 _ _ hb
      have hcl := hl.n
      have hn6 := ht.n2
      walk_at "rd"
      refine ⟨x, .ref b, t, T1, a1, a2, a3, xs, _, rfl, hx.up e1, ht.n2, .lst hb1 (dq_cs cs) (by rw [len_csV]; omega), fun _ H2 e2 => ?_, fun h => (by rw [hl.ok] at h; cases h)⟩
      walk_at "rd"
      exact ⟨x, b, z, t, T1, a1, a2, a3, xs, cs, rfl, hx.up (e1.trans e2), ht.n2, ht.nd, e2 _ _ hb1, hl.n, hz.1, hz.2, fun H' e' => q H' (e1.trans (e2.trans e'))⟩
def sp_tbook (K : PySem.W.Frag) : Sp := fun vs H Q E => ∃ x y u, vs = [x, y, u] ∧ (badT K H x y E ∨ (∃ t T a1 a2 a3 xs b cs o, ∃ zs : List Str, TgOk t ∧ TgAt H x t T a1 a2 a3 xs ∧ y = .ref b ∧ H b = some (.lst (csV cs)) ∧ LtOk t cs ∧ u = .ref o ∧ H o = some (.lst (zs.map V.str)) ∧ (∀ z ∈ zs, Chars t z) ∧ zs.length ≤ 1000 ∧
  ∀ l H', H l = none → Same H H' → H' l = some (.lst ((zs.map (trS (ltT t) cs)).map V.str)) → Q (.ref l) H'))
theorem ok_turned_book (T : Txt K mg) : Z.CE P w K mg base 7 "turned_book" (sp_tbook K) := by
  refine T.d_turned_book.ce sc_turned_book (fun vs H Q E h => ?_) (Z.bd0 fun _ _ _ _ _ _ us hl => match us, hl with | [_, _, _], _ => rfl) (fun f cdv A outer s H vs Q E hr h => ⟨_, (pss_cons (ps_expr (pe_ce (ok_look_at_tongue T) hr (by decide) rfl (takes_of rfl rfl rfl rfl) (pa_cons (pv 0) pa_nil)))
  (pss_cons (ps_expr (pe_ce (ok_look_at_letters T) hr (by decide) rfl (takes_of rfl rfl rfl rfl) (pa_cons (pv 0) (pa_cons (pv 1) pa_nil))))
  (pss_one (ps_ret (pe_lc (own := [("word", 3)]) rfl sc_turned_book.nd (k_iL K (pv 2)) (blkOk_by (N := ["tongue", "letters", "book", "word"]) (sc := defScope s_turned_book) (by decide +kernel)) (fun _ _ _ _ _ => (pg_name (i := 3) sc_turned_book.nd rfl (Or.inl rfl))) (fun _ _ _ _ _ => pts_nil) (fun _ _ _ _ _ => (pe_c0 (ok_called T) hr (by decide) rfl (pa_cons (pv 0) (pa_cons (pv 1) (pa_cons (pv 3) pa_nil)))))))))), ?_⟩)
  · obtain ⟨x, y, u, rfl, _⟩ := h
    rfl
  · obtain ⟨x, y, u, rfl, q⟩ := h
    rw [st_turned_book]
    walk_at "st"
    walk_at "rd"
    rcases q with (⟨d, v, hd, he, q⟩ | ⟨t, T1, a1, a2, a3, xs, e, ht, hx, hy, hl, q⟩) | ⟨t, T1, a1, a2, a3, xs, b, cs, o, zs, ht, hx, rfl, hb, hl, rfl, ho, hz, hzl, q⟩
    · refine ⟨x, d, rfl, hd, ?_⟩
      rw [he]
      exact q
    · refine ⟨x, tgD t, rfl, hx.dq, ?_⟩
      rw [tgErr_ok ht]
      intro H1 e1
      walk_at "rd"
      refine ⟨x, y, t, T1, a1, a2, a3, xs, e, rfl, hx.up e1, ht.n2, hy.up e1, fun h => (by rw [hl] at h; cases h), fun _ H2 e2 => q H2 (e1.trans e2)⟩
    · refine ⟨x, tgD t, rfl, hx.dq, ?_⟩
      rw [tgErr_ok ht]
      intro H1 e1
      have hb1 := e1 _ _ hb
      have hcl := hl.n
      have hn6 := ht.n2
      walk_at "rd"
      refine ⟨x, .ref b, t, T1, a1, a2, a3, xs, _, rfl, hx.up e1, ht.n2, .lst hb1 (dq_cs cs) (by rw [len_csV]; omega), fun _ H2 e2 => ?_, fun h => (by rw [hl.ok] at h; cases h)⟩
      have e12 := e1.trans e2
      have ho2 := e12 _ _ ho
      have hx2 := hx.up e12
      have hb2 := e2 _ _ hb1
      walk_at "rd"
      refine lcW (walk_list (xs := zs.map V.str)) (fun i acc _ => acc = ((zs.take i).map (trS (ltT t) cs)).map V.str) rfl (fun H' e' => sqL (e' _ _ ho2)) (fun _ _ => rfl) ?_ ?_
      · rintro i x1 acc Dl G0 G1 hi hD g3 g4 hl3 rfl y
        obtain ⟨rfl, hx1⟩ := y
        have hi2 : i < zs.length := by rw [List.length_map] at hi; exact hi
        obtain rfl : V.str zs[i] = x1 := by
          have hx1 : (zs.map V.str)[i]? = some x1 := hx1
          rw [List.getElem?_map, List.getElem?_eq_getElem hi2] at hx1
          exact Option.some.inj hx1
        obtain ⟨q1, q2⟩ := hz _ (List.getElem_mem hi2)
        walk_at "rd"
        refine ⟨x, b, zs[i], t, T1, a1, a2, a3, xs, cs, rfl, hx2.up g3, ht.n2, ht.nd, g3 _ _ hb2, hl.n, q1, q2, fun G2 s2 => ?_⟩
        refine lc_put (by omega) hD (g3.trans s2) (s2 _ _ g4) hl3 fun H5 _ _ => ?_
        rw [← List.take_append_getElem hi2, List.map_append, List.map_append]
        rfl
      · rintro acc Dl G0 hD g3 g4 rfl
        rw [List.length_map, List.take_length] at g4
        exact q Dl G0 (Z.fr hD e12) (e12.trans g3) g4
def sp_ttongue (K : PySem.W.Frag) : Sp := fun vs H Q E => ∃ x y, vs = [x, y] ∧ (badT K H x y E ∨ (∃ t T a1 a2 a3 xs b cs, TgOk t ∧ TgAt H x t T a1 a2 a3 xs ∧ y = .ref b ∧ H b = some (.lst (csV cs)) ∧ LtOk t cs ∧ newTg K (trT t cs) H Q))
def trG (t : Tg) (cs : List Nat) (s : Sg) : Sg := ⟨trC (ltT t) cs s.c, s.p, s.l⟩
theorem ok_turned_tongue (T : Txt K mg) : Z.CE P w K mg base 7 "turned_tongue" (sp_ttongue K) := by
  refine T.d_turned_tongue.ce sc_turned_tongue (fun vs H Q E h => ?_) (Z.bd0 fun _ _ _ _ _ _ us hl => match us, hl with | [_, _], _ => rfl) (fun f cdv A outer s H vs Q E hr h => ⟨_, (pss_cons (ps_expr (pe_ce (ok_look_at_tongue T) hr (by decide) rfl (takes_of rfl rfl rfl rfl) (pa_cons (pv 0) pa_nil)))
  (pss_cons (ps_expr (pe_ce (ok_look_at_letters T) hr (by decide) rfl (takes_of rfl rfl rfl rfl) (pa_cons (pv 0) (pa_cons (pv 1) pa_nil))))
  (pss_cons (ps_asg (pv 0) (k_tup (n := 4) K rfl (pgs_cons (pg_name (i := 2) sc_turned_tongue.nd rfl (Or.inl rfl)) (pgs_cons (pg_name (i := 3) sc_turned_tongue.nd rfl (Or.inl rfl)) (pgs_cons (pg_name (i := 4) sc_turned_tongue.nd rfl (Or.inl rfl)) (pgs_cons (pg_name (i := 5) sc_turned_tongue.nd rfl (Or.inl rfl)) pgs_nil))))))
  (pss_cons (ps_setLc (i := 6) (own := [("sign", 8), ("price", 9), ("last", 10)]) rfl sc_turned_tongue.nd rfl rfl (sw_true rfl rfl rfl (by decide +kernel)) (k_iL K (pv 2)) (blkOk_by (N := ["tongue", "letters", "signs", "firsts", "pairs", "longest", "rows", "heads", "sign", "price", "last", "pair"]) (sc := defScope s_turned_tongue) (by decide +kernel)) (fun _ _ _ _ _ => (k_tup (n := 3) K rfl (pgs_cons (pg_name (i := 8) sc_turned_tongue.nd rfl (Or.inl rfl)) (pgs_cons (pg_name (i := 9) sc_turned_tongue.nd rfl (Or.inl rfl)) (pgs_cons (pg_name (i := 10) sc_turned_tongue.nd rfl (Or.inl rfl)) pgs_nil))))) (fun _ _ _ _ _ => pts_nil) (fun _ _ _ _ _ => (pe_tup (pa_cons (pe_c0 (ok_called T) hr (by decide) rfl (pa_cons (pv 0) (pa_cons (pv 1) (pa_cons (pv 8) pa_nil)))) (pa_cons (pv 9) (pa_cons (pv 10) pa_nil))))))
  (pss_cons (ps_setLc (i := 7) (own := [("sign", 8)]) rfl sc_turned_tongue.nd rfl rfl (sw_true rfl rfl rfl (by decide +kernel)) (k_iL K (pv 3)) (blkOk_by (N := ["tongue", "letters", "signs", "firsts", "pairs", "longest", "rows", "heads", "sign", "price", "last", "pair"]) (sc := defScope s_turned_tongue) (by decide +kernel)) (fun _ _ _ _ _ => (pg_name (i := 8) sc_turned_tongue.nd rfl (Or.inl rfl))) (fun _ _ _ _ _ => pts_nil) (fun _ _ _ _ _ => (pe_c0 (ok_called T) hr (by decide) rfl (pa_cons (pv 0) (pa_cons (pv 1) (pa_cons (pv 8) pa_nil))))))
  (pss_one (ps_ret (pe_tup (pa_cons (pv 6) (pa_cons (pv 7) (pa_cons (pe_lc (own := [("pair", 11)]) rfl sc_turned_tongue.nd (k_iL K (pv 4)) (blkOk_by (N := ["tongue", "letters", "signs", "firsts", "pairs", "longest", "rows", "heads", "sign", "price", "last", "pair"]) (sc := defScope s_turned_tongue) (by decide +kernel)) (fun _ _ _ _ _ => (pg_name (i := 11) sc_turned_tongue.nd rfl (Or.inl rfl))) (fun _ _ _ _ _ => pts_nil) (fun _ _ _ _ _ => (pe_c0 (ok_called T) hr (by decide) rfl (pa_cons (pv 0) (pa_cons (pv 1) (pa_cons (pv 11) pa_nil)))))) (pa_cons (pv 5) pa_nil)))))))))))), ?_⟩)
  · obtain ⟨x, y, rfl, _⟩ := h
    rfl
  · obtain ⟨x, y, rfl, q⟩ := h
    rw [st_turned_tongue]
    walk_at "st"
    walk_at "rd"
    rcases q with (⟨d, v, hd, he, q⟩ | ⟨t, T1, a1, a2, a3, xs, e, ht, hx, hy, hl, q⟩) | ⟨t, T1, a1, a2, a3, xs, b, cs, ht, hx, rfl, hb, hl, q⟩
    · refine ⟨x, d, rfl, hd, ?_⟩
      rw [he]
      exact q
    · refine ⟨x, tgD t, rfl, hx.dq, ?_⟩
      rw [tgErr_ok ht]
      intro H1 e1
      walk_at "rd"
      refine ⟨x, y, t, T1, a1, a2, a3, xs, e, rfl, hx.up e1, ht.n2, hy.up e1, fun h => (by rw [hl] at h; cases h), fun _ H2 e2 => q H2 (e1.trans e2)⟩
    · refine ⟨x, tgD t, rfl, hx.dq, ?_⟩
      rw [tgErr_ok ht]
      intro H1 e1
      have hb1 := e1 _ _ hb
      have hcl := hl.n
      have hn6 := ht.n2
      walk_at "rd"
      refine ⟨x, .ref b, t, T1, a1, a2, a3, xs, _, rfl, hx.up e1, ht.n2, .lst hb1 (dq_cs cs) (by rw [len_csV]; omega), fun _ H2 e2 => ?_, fun h => (by rw [hl.ok] at h; cases h)⟩
      have e12 := e1.trans e2
      have hx2 := hx.up e12
      have hb2 := e2 _ _ hb1
      have hx0 := hx2
      obtain ⟨rfl, k0, k1, k2, k3, k4, w1, w2, w3, w4⟩ := hx2
      have hxl := k2.length
      rw [List.length_map] at hxl
      clear e1 e2
      walk_at "rd"
      refine lcW2 (walk_list (xs := xs)) (fun Dl i acc H' => DqAll (L2.del H' Dl) acc ((t.sg.take i).map fun s => sgD (trG t cs s))) rfl (fun H' e' => sqL (e' _ _ k1)) (fun _ _ _ _ => .nil) ?_ ?_
      · rintro i x1 acc Dl G0 G1 hi hD g3 g4 hl3 dq y
        obtain ⟨rfl, hx1⟩ := y
        have hi2 : i < t.sg.length := by omega
        obtain rfl : xs[i] = x1 := Option.some.inj ((List.getElem?_eq_getElem hi).symm.trans hx1)
        have gi : Dq H2 xs[i] (sgD t.sg[i]) := by
          have := k2.get i hi (by rw [List.length_map]; exact hi2)
          rwa [List.getElem_map] at this
        obtain ⟨Ts, v2, v3, ex, hTs, d2, d3⟩ := sg_tup gi
        rw [ex]
        have hTs1 : G1 Ts = some (.tup [.str (S [t.sg[i].c]), v2, v3]) := g3 _ _ hTs
        walk_at "rd"
        refine ⟨.ref T1, b, S [t.sg[i].c], t, T1, a1, a2, a3, xs, cs, rfl, hx0.up g3, ht.n2, ht.nd, g3 _ _ hb2, hl.n, fun c hc => ?_, by rw [M.S_len, List.length_singleton]; decide, fun G2 s2 => ?_⟩
        · have : c = t.sg[i].c := List.mem_singleton.mp hc
          exact this ▸ List.mem_map.mpr ⟨_, List.getElem_mem hi2, rfl⟩
        walk_at "rd"
        intro T2 G3 hT2 s3 h3
        have g6 : G2 Dl = some (.lst acc) := s2 _ _ g4
        have nT : T2 ≠ Dl := (ne1 hT2 g6).symm
        have eb : Same H2 G3 := g3.trans (s2.trans s3)
        refine lc_put (by omega) hD eb (s3 _ _ g6) hl3 fun H5 b5 e5 => ?_
        rw [sgs_map_take _ hi2]
        have ed : Same H2 (L2.del H5 Dl) := toDel e5 hD
        exact DqAll.app ((dq.dels (s2.trans s3)).up (delB b5)) (.cons (.tup (delB b5 _ _ (delG h3 nT)) (.cons (.str _ (by rw [trS_len, M.S_len, List.length_singleton]; decide)) (.cons (d2.up ed) (.cons (d3.up ed) .nil))) (by simp)) .nil)
      rintro acc rl H3 hrl s3 h3 dq
      rw [hxl, List.take_length] at dq
      have dq3 := dq.up del_sub
      have k3' : H3 a2 = some (.lst (t.fi.map V.str)) := s3 _ _ k3
      have hx3 := hx0.up s3
      have hb3 := s3 _ _ hb2
      walk_at "rd"
      refine lcW (walk_list (xs := t.fi.map V.str)) (fun i acc _ => acc = ((t.fi.take i).map (trS (ltT t) cs)).map V.str) rfl (fun H' e' => sqL (e' _ _ k3')) (fun _ _ => rfl) ?_ ?_
      · rintro i x1 acc Dl G0 G1 hi hD g3 g4 hl3 rfl y
        obtain ⟨rfl, hx1⟩ := y
        have hi2 : i < t.fi.length := by rw [List.length_map] at hi; exact hi
        obtain rfl : V.str t.fi[i] = x1 := by
          have hx1 : (t.fi.map V.str)[i]? = some x1 := hx1
          rw [List.getElem?_map, List.getElem?_eq_getElem hi2] at hx1
          exact Option.some.inj hx1
        obtain ⟨q1, q2⟩ := fi_chars ht _ (List.getElem_mem hi2)
        walk_at "rd"
        refine ⟨.ref T1, b, t.fi[i], t, T1, a1, a2, a3, xs, cs, rfl, hx3.up g3, ht.n2, ht.nd, g3 _ _ hb3, hl.n, q1, q2, fun G2 s2 => ?_⟩
        refine lc_put (by omega) hD (g3.trans s2) (s2 _ _ g4) hl3 fun H5 _ _ => ?_
        rw [← List.take_append_getElem hi2, List.map_append, List.map_append]
        rfl
      rintro acc fl H4 hfl s4 h4 rfl
      rw [List.length_map, List.take_length] at h4
      have k4' : H4 a3 = some (.lst (t.pa.map V.str)) := s4 _ _ (s3 _ _ k4)
      have hx4 := hx3.up s4
      have hb4 := s4 _ _ hb3
      walk_at "rd"
      refine lcW (walk_list (xs := t.pa.map V.str)) (fun i acc _ => acc = ((t.pa.take i).map (trS (ltT t) cs)).map V.str) rfl (fun H' e' => sqL (e' _ _ k4')) (fun _ _ => rfl) ?_ ?_
      · rintro i x1 acc Dl G0 G1 hi hD g3 g4 hl3 rfl y
        obtain ⟨rfl, hx1⟩ := y
        have hi2 : i < t.pa.length := by rw [List.length_map] at hi; exact hi
        obtain rfl : V.str t.pa[i] = x1 := by
          have hx1 : (t.pa.map V.str)[i]? = some x1 := hx1
          rw [List.getElem?_map, List.getElem?_eq_getElem hi2] at hx1
          exact Option.some.inj hx1
        obtain ⟨q1, q2⟩ := pa_chars ht _ (List.getElem_mem hi2)
        walk_at "rd"
        refine ⟨.ref T1, b, t.pa[i], t, T1, a1, a2, a3, xs, cs, rfl, hx4.up g3, ht.n2, ht.nd, g3 _ _ hb4, hl.n, q1, q2, fun G2 s2 => ?_⟩
        refine lc_put (by omega) hD (g3.trans s2) (s2 _ _ g4) hl3 fun H5 _ _ => ?_
        rw [← List.take_append_getElem hi2, List.map_append, List.map_append]
        rfl
      rintro acc pl H5 hpl s5 h5 rfl
      rw [List.length_map, List.take_length] at h5
      walk_at "rd"
      intro r H6 hr6 s6 h6
      have n1 : rl ≠ fl := ne1 hfl h3
      have n2 : rl ≠ pl := ne1 hpl (s4 _ _ h3)
      have n3 : fl ≠ pl := ne1 hpl h4
      refine q r rl fl pl acc H6 (e12.trans (s3.trans (s4.trans (s5.trans s6)))) (Z.fr hrl e12) (Z.fr hfl (e12.trans s3)) (Z.fr hpl (e12.trans (s3.trans s4))) n1 n2 n3 ⟨rfl, h6, s6 _ _ (s5 _ _ (s4 _ _ h3)), ?_, s6 _ _ (s5 _ _ h4), s6 _ _ h5, ?_, ?_, ?_, ?_⟩
      · show DqAll _ _ ((t.sg.map (trG t cs)).map sgD)
        rw [List.map_map]
        exact dq3.up (s4.trans (s5.trans s6))
      · show (t.fi.map _).length ≤ 100
        rw [List.length_map]
        exact w1
      · show (t.pa.map _).length ≤ 100
        rw [List.length_map]
        exact w2
      · intro z hz
        rcases List.mem_append.mp hz with hz | hz
        · obtain ⟨u, hu, rfl⟩ := List.mem_map.mp hz
          rw [trS_len]
          exact w3 u (List.mem_append_left _ hu)
        · obtain ⟨u, hu, rfl⟩ := List.mem_map.mp hz
          rw [trS_len]
          exact w3 u (List.mem_append_right _ hu)
      · show (t.sg.map _).length ≤ 100
        rw [List.length_map]
        exact w4
end
end My

namespace My
open PySem PySem.Spec PyProof.Rows L2 Z M SX TL
section
variable {P : Program} {w : World} {K : PySem.W.Frag} {mg : Str → Option Value} {base : Heap}
def sp_noturn : Sp := fun vs H Q _ => ∃ a, vs = [.ref a] ∧ H a = some (ExH (.ref (He.ga K "NoTurn")) none a) ∧ ∀ H', Same H H' → Q (.bl true) H'
theorem ok_law_is_no_turn (T : Txt K mg) : Z.C0 P w K mg base 3 "_law_is_no_turn" (sp_noturn (K := K)) := by
  refine T.d_law_is_no_turn.c0 sc_law_is_no_turn (fun vs H Q E h => ?_) (Z.bd0 fun _ _ _ _ _ _ us hl => match us, hl with | [_], _ => rfl) (fun f cdv A outer s H vs Q E hr h => ⟨_, (pss_cons (ps_if (PW.pt (pw_or (pt_not (pt_val (pe_callB (k_isiX K) rfl T.b_isinstance (by decide +kernel) (pa_cons (pv 0) (pa_cons (pe_glob (v := .ref (He.ga K "NoTurn")) rfl T.k_NoTurn rfl) pa_nil))))) (pw_or1 (pt_not (pt_val (pe_callB (k_isiX K) rfl T.b_isinstance (by decide +kernel) (pa_cons (pv 0) (pa_cons (pe_bltn (v := .ty "ValueError") rfl T.b_ValueError (by decide +kernel) rfl) pa_nil))))))))
  (pss_one (ps_ret pe_bl)) pss_nil)
  (pss_cons (ps_set (i := 1) sc_law_is_no_turn.nd rfl (Or.inl rfl) (pe_callB (k_isiXT K) rfl T.b_isinstance (by decide +kernel) (pa_cons (pv 0) (pa_cons (pe_tup (pa_cons (pe_glob (v := .ref (He.ga K "NoBook")) rfl T.k_NoBook rfl) (pa_cons (pe_glob (v := .ref (He.ga K "NoTongue")) rfl T.k_NoTongue rfl) (pa_cons (pe_glob (v := .ref (He.ga K "NoWants")) rfl T.k_NoWants rfl) (pa_cons (pe_glob (v := .ref (He.ga K "NoTree")) rfl T.k_NoTree rfl) (pa_cons (pe_glob (v := .ref (He.ga K "TooMany")) rfl T.k_TooMany rfl) (pa_cons (pe_glob (v := .ref (He.ga K "NoUndo")) rfl T.k_NoUndo rfl) (pa_cons (pe_glob (v := .ref (He.ga K "NoCount")) rfl T.k_NoCount rfl) (pa_cons (pe_glob (v := .ref (He.ga K "NoNumber")) rfl T.k_NoNumber rfl) (pa_cons (pe_glob (v := .ref (He.ga K "NoRow")) rfl T.k_NoRow rfl) (pa_cons (pe_glob (v := .ref (He.ga K "NoText")) rfl T.k_NoText rfl) pa_nil))))))))))) pa_nil))))
  (pss_one (ps_ret (pe_and (pe_not (pv 1)) (pe_one (pe_not (pe_callB (k_isiXT K) rfl T.b_isinstance (by decide +kernel) (pa_cons (pv 0) (pa_cons (pe_tup (pa_cons (pe_glob (v := .ref (He.ga K "Unknown")) rfl T.k_Unknown rfl) (pa_cons (pe_glob (v := .ref (He.ga K "NoThing")) rfl T.k_NoThing rfl) (pa_cons (pe_glob (v := .ref (He.ga K "BadSign")) rfl T.k_BadSign rfl) pa_nil)))) pa_nil)))))))))), ?_⟩)
  · obtain ⟨a, rfl, _⟩ := h
    rfl
  · obtain ⟨a, rfl, f2, q⟩ := h
    rw [st_law_is_no_turn]
    walk_at "st"
    walk_at "rd"
    have dv : ∀ {H3 : Hp}, DictV H3 none := .inl rfl
    refine r_isX true (x := "NoTurn") (y := "NoTurn") T.ex (by decide +kernel) (by decide +kernel) f2 dv ?_
    walk_at "rd"
    refine r_isXv (x := "NoTurn") T.ex (by decide +kernel) f2 dv ?_
    walk_at "rd"
    intro t1 H3 n3 e3 f4
    walk_at "rd"
    refine r_isXT false ["NoBook", "NoTongue", "NoWants", "NoTree", "TooMany", "NoUndo", "NoCount", "NoNumber", "NoRow", "NoText"] (x := "NoTurn") T.ex (by decide +kernel) (by decide +kernel) (e3 _ _ f2) dv f4 ?_
    walk_at "rd"
    intro t2 H4 n4 e4 f5
    walk_at "rd"
    refine r_isXT false ["Unknown", "NoThing", "BadSign"] (x := "NoTurn") T.ex (by decide +kernel) (by decide +kernel) (e4 _ _ (e3 _ _ f2)) dv f5 ?_
    walk_at "rd"
    exact q _ (by walk_at "sm")
theorem trC_at {t : Tg} {cs : List Nat} (nd : (ltT t).Nodup) {i : Nat} (hi : i < t.sg.length) (hc : i < cs.length) : trC (ltT t) cs t.sg[i].c = cs[i] := by
  have hl : (ltT t).length = t.sg.length := List.length_map _
  have e : (ltT t)[i]'(by omega) = t.sg[i].c := List.getElem_map Sg.c
  have hm : t.sg[i].c ∈ ltT t := List.mem_map.mpr ⟨_, List.getElem_mem hi, rfl⟩
  obtain ⟨q1, q2⟩ := idx_at hm
  have : (ltT t).idxOf t.sg[i].c = i := nd_inj nd q1 (by omega) (q2.trans e.symm)
  unfold trC
  rw [this, List.getD_eq_getElem?_getD, List.getElem?_eq_getElem hc]
  rfl
theorem lt_strs (t : Tg) : (t.sg.map fun s => S [s.c]) = (ltT t).map fun c => S [c] := by
  unfold ltT
  rw [List.map_map]
  rfl
theorem ok_law_called (T : Txt K mg) : Z.C0 P w K mg base 1 "_law_called" (sp_called K) := by
  refine T.d_law_called.c0 sc_law_called (fun vs H Q E h => ?_) (Z.bd0 fun _ _ _ _ _ _ us hl => match us, hl with | [_, _, _], _ => rfl) (fun f cdv A outer s H vs Q E hr h => ⟨_, (pss_cons (ps_set (i := 3) sc_law_called.nd rfl (Or.inr rfl) (pe_lc (own := [("_law_one", 4)]) rfl sc_law_called.nd (k_iL K (pe_ix (k_ix K) (pv 0) pe_int (fun _ _ => rfl))) (blkOk_by (N := ["_law_tongue_here", "_law_letters_here", "_law_text", "_law_signs", "_law_one", "_law_sign_here"]) (sc := defScope s_law_called) (by decide +kernel)) (fun _ _ _ _ _ => (pg_name (i := 4) sc_law_called.nd rfl (Or.inl rfl))) (fun _ _ _ _ _ => pts_nil) (fun _ _ _ _ _ => (pe_ix (k_ix K) (pv 4) pe_int (fun _ _ => rfl)))))
  (pss_one (ps_ret (k_bm K PySem.F.plainAttrs_str PySem.F.slot_str_join PySem.F.type_str_join (k_join K) pe_str (pa_cons (pe_lc (own := [("_law_sign_here", 5)]) rfl sc_law_called.nd (pi_str (pv 2)) (blkOk_by (N := ["_law_tongue_here", "_law_letters_here", "_law_text", "_law_signs", "_law_one", "_law_sign_here"]) (sc := defScope s_law_called) (by decide +kernel)) (fun _ _ _ _ _ => (pg_name (i := 5) sc_law_called.nd rfl (Or.inl rfl))) (fun _ _ _ _ _ => pts_nil) (fun _ _ _ _ _ => (pe_ix (k_ix K) (pv 1) (k_bm K PySem.F.plainAttrs_list PySem.F.slot_list_index PySem.F.type_list_index (k_index K) (pv 3) (pa_cons (pv 5) pa_nil)) (fun _ _ => rfl)))) pa_nil))))), ?_⟩)
  · obtain ⟨x, b, z, t, T, a1, a2, a3, xs, cs, rfl, _⟩ := h
    rfl
  · obtain ⟨x, b, z, t, T1, a1, a2, a3, xs, cs, rfl, hx, hm6, hnd, hb, hcl, hz, hzl, q⟩ := h
    rw [st_law_called]
    walk_at "st"
    obtain ⟨rfl, k0, k1, k2, k3, k4, w1, w2, w3, w4⟩ := hx
    have hxl := k2.length
    rw [List.length_map] at hxl
    have i0 : atI [V.ref a1, V.ref a2, V.ref a3, V.int (t.lo : Nat)] 0 = some (.ref a1) := rfl
    have hll : (ltT t).length = t.sg.length := List.length_map _
    walk_at "rd"
    refine lcW (walk_list (xs := xs)) (fun i acc _ => acc = ((t.sg.take i).map fun s => S [s.c]).map V.str) rfl (fun _ _ => by walk_at "lk") (fun _ _ => rfl) ?_ ?_
    · rintro i x acc Dl G0 G1 hi hD g3 g4 hl3 rfl y
      obtain ⟨rfl, hx⟩ := y
      have hi2 : i < t.sg.length := by omega
      obtain rfl : xs[i] = x := Option.some.inj ((List.getElem?_eq_getElem hi).symm.trans hx)
      have gi : Dq H xs[i] (sgD t.sg[i]) := by
        have := k2.get i hi (by rw [List.length_map]; exact hi2)
        rwa [List.getElem_map] at this
      obtain ⟨Ts, v2, v3, ex, hTs, d2, d3⟩ := sg_tup gi
      rw [ex]
      have j0 : atI [V.str (S [t.sg[i].c]), v2, v3] 0 = some (.str (S [t.sg[i].c])) := rfl
      walk_at "rd"
      refine lc_put (by omega) hD g3 g4 hl3 fun H5 _ _ => ?_
      rw [← List.take_append_getElem hi2, List.map_append, List.map_append]
      rfl
    rintro acc sl H1 hsl e1 f1 rfl
    rw [hxl, List.take_length, lt_strs] at f1
    have hb1 := e1 _ _ hb
    have hns : ((ltT t).map fun c => S [c]).Nodup := List.pairwise_map.mpr (hnd.imp fun {a b} q e => q (S1_inj e))
    walk_at "rd"
    refine lcW walk_str (fun i acc _ => acc = ((((tl z).take i).map (trC (ltT t) cs)).map fun c => S [c]).map V.str) rfl (fun _ _ => trivial) (fun _ _ => rfl) ?_ ?_
    · rintro i x acc D2 _ G2 hi hD2 s2 h2 hl2 rfl ⟨rfl, c, hc, rfl⟩
      have hc2 : (tl z)[i]? = some c := by simpa [tl] using hc
      have hcm : c ∈ ltT t := hz c (List.mem_of_getElem? hc2)
      have hil : i < (tl z).length := (List.getElem?_eq_some_iff.mp hc2).1
      have hzl2 : (tl z).length ≤ 1000 := by rw [← len_tl]; exact hzl
      obtain ⟨q1, q2⟩ := idx_at hcm
      have q3 : (ltT t).idxOf c < cs.length := by omega
      have f1' := s2 _ _ f1
      have hb2 := s2 _ _ hb1
      have hat : atI (csV cs) (((ltT t).idxOf c : Nat) : Int) = some (.str (S [trC (ltT t) cs c])) := by
        refine atI_nat ?_
        unfold csV trC
        rw [List.getElem?_map, List.getElem?_eq_getElem q3, List.getD_eq_getElem?_getD, List.getElem?_eq_getElem q3]
        rfl
      walk_at "rd"
      refine r_indexS (zs := (ltT t).map fun c => S [c]) (j := (ltT t).idxOf c) (sqL f1') hns (by rw [List.length_map]; exact q1) (by rw [List.getElem_map, q2]) ?_
      walk_at "rd"
      refine lc_put (by omega) hD2 s2 h2 hl2 fun H5 _ _ => ?_
      rw [List.take_add_one, hc2]
      simp
    · rintro acc D2 G2 hD2 s2 h2 rfl
      have en : z.cps.size = (tl z).length := by simp [tl]
      have hzl2 : (tl z).length ≤ 1000 := by rw [← len_tl]; exact hzl
      rw [en, List.take_length] at h2
      walk_at "rd"
      rw [show Str.ofString "" = S [] by decide +kernel]
      walk_at "rd"
      refine r_join1 (sqL h2) (by rw [List.length_map]; omega) ?_
      exact q G2 (e1.trans s2)
def sp_lturned (K : PySem.W.Frag) : Sp := fun vs H Q _ => ∃ x b t T a1 a2 a3 xs cs, vs = [x, .ref b] ∧ TgOk t ∧ TgAt H x t T a1 a2 a3 xs ∧ H b = some (.lst (csV cs)) ∧ LtOk t cs ∧ ∀ r rl fl pl rows H', Same H H' → TgAt H' (.ref r) (trT t cs) r rl fl pl rows → Q (.ref r) H'
theorem ok_law_turned (T : Txt K mg) : Z.C0 P w K mg base 2 "_law_turned" (sp_lturned K) := by
  refine T.d_law_turned.c0 sc_law_turned (fun vs H Q E h => ?_) (Z.bd0 fun _ _ _ _ _ _ us hl => match us, hl with | [_, _], _ => rfl) (fun f cdv A outer s H vs Q E hr h => ⟨_, (pss_cons (ps_setLc (i := 2) (own := [("_law_k", 4), ("_law_one", 5)]) rfl sc_law_turned.nd rfl rfl (sw_true rfl rfl rfl (by decide +kernel)) (k_iE K (by rfl) T.b_enumerate (pa_cons (pe_ix (k_ix K) (pv 0) pe_int (fun _ _ => rfl)) pa_nil)) (blkOk_by (N := ["_law_tongue_here", "_law_letters_here", "_law_signs", "_law_firsts", "_law_k", "_law_one", "_law_sign_here", "_law_pair"]) (sc := defScope s_law_turned) (by decide +kernel)) (fun _ _ _ _ _ => (k_tup (n := 2) K rfl (pgs_cons (pg_name (i := 4) sc_law_turned.nd rfl (Or.inl rfl)) (pgs_cons (pg_name (i := 5) sc_law_turned.nd rfl (Or.inl rfl)) pgs_nil)))) (fun _ _ _ _ _ => pts_nil) (fun _ _ _ _ _ => (pe_tup (pa_cons (pe_ix (k_ix K) (pv 1) (pv 4) (fun _ _ => rfl)) (pa_cons (pe_ix (k_ix K) (pv 5) pe_int (fun _ _ => rfl)) (pa_cons (pe_ix (k_ix K) (pv 5) pe_int (fun _ _ => rfl)) pa_nil))))))
  (pss_cons (ps_setLc (i := 3) (own := [("_law_sign_here", 6)]) rfl sc_law_turned.nd rfl rfl (sw_true rfl rfl rfl (by decide +kernel)) (k_iL K (pe_ix (k_ix K) (pv 0) pe_int (fun _ _ => rfl))) (blkOk_by (N := ["_law_tongue_here", "_law_letters_here", "_law_signs", "_law_firsts", "_law_k", "_law_one", "_law_sign_here", "_law_pair"]) (sc := defScope s_law_turned) (by decide +kernel)) (fun _ _ _ _ _ => (pg_name (i := 6) sc_law_turned.nd rfl (Or.inl rfl))) (fun _ _ _ _ _ => pts_nil) (fun _ _ _ _ _ => (pe_c0 (ok_law_called T) hr (by decide) rfl (pa_cons (pv 0) (pa_cons (pv 1) (pa_cons (pv 6) pa_nil))))))
  (pss_one (ps_ret (pe_tup (pa_cons (pv 2) (pa_cons (pv 3) (pa_cons (pe_lc (own := [("_law_pair", 7)]) rfl sc_law_turned.nd (k_iL K (pe_ix (k_ix K) (pv 0) pe_int (fun _ _ => rfl))) (blkOk_by (N := ["_law_tongue_here", "_law_letters_here", "_law_signs", "_law_firsts", "_law_k", "_law_one", "_law_sign_here", "_law_pair"]) (sc := defScope s_law_turned) (by decide +kernel)) (fun _ _ _ _ _ => (pg_name (i := 7) sc_law_turned.nd rfl (Or.inl rfl))) (fun _ _ _ _ _ => pts_nil) (fun _ _ _ _ _ => (pe_c0 (ok_law_called T) hr (by decide) rfl (pa_cons (pv 0) (pa_cons (pv 1) (pa_cons (pv 7) pa_nil)))))) (pa_cons (pe_ix (k_ix K) (pv 0) pe_int (fun _ _ => rfl)) pa_nil))))))))), ?_⟩)
  · obtain ⟨x, b, t, T, a1, a2, a3, xs, cs, rfl, _⟩ := h
    rfl
  · obtain ⟨x, b, t, T1, a1, a2, a3, xs, cs, rfl, ht, hx, hb, hl, q⟩ := h
    rw [st_law_turned]
    walk_at "st"
    have hx0 := hx
    obtain ⟨rfl, k0, k1, k2, k3, k4, w1, w2, w3, w4⟩ := hx
    have hxl := k2.length
    rw [List.length_map] at hxl
    have hn := hl.n
    have hn6 := ht.n2
    have i0 : atI [V.ref a1, V.ref a2, V.ref a3, V.int (t.lo : Nat)] 0 = some (.ref a1) := rfl
    have i1 : atI [V.ref a1, V.ref a2, V.ref a3, V.int (t.lo : Nat)] 1 = some (.ref a2) := rfl
    have i2 : atI [V.ref a1, V.ref a2, V.ref a3, V.int (t.lo : Nat)] 2 = some (.ref a3) := rfl
    have i3 : atI [V.ref a1, V.ref a2, V.ref a3, V.int (t.lo : Nat)] 3 = some (.int (t.lo : Nat)) := rfl
    walk_at "rd"
    refine lcW2 (walk_enum (xs := xs)) (fun Dl i acc H' => DqAll (L2.del H' Dl) acc ((t.sg.take i).map fun s => sgD (trG t cs s))) rfl (fun H' e' => sqL (e' _ _ k1)) (fun _ _ _ _ => .nil) ?_ ?_
    · rintro i x1 acc Dl G0 G1 hi hD g3 g4 hl3 dq y
      obtain ⟨Te, x1', x2', rfl, hTe, rfl, hx1, hx2⟩ := y
      have e3 : Same G0 (upd G0 Te (.tup [x1', x2'])) := Same.new hTe
      have f3 : (upd G0 Te (.tup [x1', x2'])) Te = some (.tup [x1', x2']) := upd_same
      revert e3 f3
      generalize upd G0 Te (.tup [x1', x2']) = G1
      intro e3 f3
      obtain rfl : V.int (i : Nat) = x1' := Option.some.inj hx1
      have hi2 : i < t.sg.length := by omega
      have hi3 : i < cs.length := by omega
      obtain rfl : xs[i] = x2' := Option.some.inj ((List.getElem?_eq_getElem hi).symm.trans hx2)
      have gi : Dq H xs[i] (sgD t.sg[i]) := by
        have := k2.get i hi (by rw [List.length_map]; exact hi2)
        rwa [List.getElem_map] at this
      obtain ⟨Ts, v2, v3, ex, hTs, d2, d3⟩ := sg_tup gi
      rw [ex] at f3
      have eG : Same H G1 := g3.trans e3
      have hTs1 : G1 Ts = some (.tup [.str (S [t.sg[i].c]), v2, v3]) := eG _ _ hTs
      have hb1 : G1 b = some (.lst (csV cs)) := eG _ _ hb
      have g5 : G1 Dl = some (.lst acc) := e3 _ _ g4
      have hat : atI (csV cs) ((i : Nat) : Int) = some (.str (S [cs[i]])) := by
        refine atI_nat ?_
        unfold csV
        rw [List.getElem?_map, List.getElem?_eq_getElem hi3]
        rfl
      have j1 : atI [V.str (S [t.sg[i].c]), v2, v3] 1 = some v2 := rfl
      have j2 : atI [V.str (S [t.sg[i].c]), v2, v3] 2 = some v3 := rfl
      walk_at "rd"
      intro T2 G3 hT2 s3 h3
      have nT : T2 ≠ Dl := (ne1 hT2 g5).symm
      refine lc_put (by omega) hD (eG.trans s3) (s3 _ _ g5) hl3 fun H5 b5 e5 => ?_
      rw [sgs_map_take _ hi2]
      have ed : Same H (L2.del H5 Dl) := toDel e5 hD
      have eC : (trG t cs t.sg[i]).c = cs[i] := trC_at ht.nd hi2 hi3
      refine DqAll.app ((dq.dels (e3.trans s3)).up (delB b5)) (.cons (.tup (delB b5 _ _ (delG h3 nT)) (.cons ?_ (.cons (d2.up ed) (.cons (d3.up ed) .nil))) (by simp)) .nil)
      rw [eC]
      exact .str _ (by rw [M.S_len, List.length_singleton]; decide)
    rintro acc rl H3 hrl s3 h3 dq
    rw [hxl, List.take_length] at dq
    have dq3 := dq.up del_sub
    have k0' := s3 _ _ k0
    have k3' : H3 a2 = some (.lst (t.fi.map V.str)) := s3 _ _ k3
    have hx3 := hx0.up s3
    have hb3 := s3 _ _ hb
    walk_at "rd"
    refine lcW (walk_list (xs := t.fi.map V.str)) (fun i acc _ => acc = ((t.fi.take i).map (trS (ltT t) cs)).map V.str) rfl (fun H' e' => sqL (e' _ _ k3')) (fun _ _ => rfl) ?_ ?_
    · rintro i x1 acc Dl G0 G1 hi hD g3 g4 hl3 rfl y
      obtain ⟨rfl, hx1⟩ := y
      have hi2 : i < t.fi.length := by rw [List.length_map] at hi; exact hi
      obtain rfl : V.str t.fi[i] = x1 := by
        have hx1 : (t.fi.map V.str)[i]? = some x1 := hx1
        rw [List.getElem?_map, List.getElem?_eq_getElem hi2] at hx1
        exact Option.some.inj hx1
      obtain ⟨q1, q2⟩ := fi_chars ht _ (List.getElem_mem hi2)
      walk_at "rd"
      refine ⟨.ref T1, b, t.fi[i], t, T1, a1, a2, a3, xs, cs, rfl, hx3.up g3, ht.n2, ht.nd, g3 _ _ hb3, hl.n, q1, q2, fun G2 s2 => ?_⟩
      refine lc_put (by omega) hD (g3.trans s2) (s2 _ _ g4) hl3 fun H5 _ _ => ?_
      rw [← List.take_append_getElem hi2, List.map_append, List.map_append]
      rfl
    rintro acc fl H4 hfl s4 h4 rfl
    rw [List.length_map, List.take_length] at h4
    have k0'' := s4 _ _ k0'
    have k4' : H4 a3 = some (.lst (t.pa.map V.str)) := s4 _ _ (s3 _ _ k4)
    have hx4 := hx3.up s4
    have hb4 := s4 _ _ hb3
    walk_at "rd"
    refine lcW (walk_list (xs := t.pa.map V.str)) (fun i acc _ => acc = ((t.pa.take i).map (trS (ltT t) cs)).map V.str) rfl (fun H' e' => sqL (e' _ _ k4')) (fun _ _ => rfl) ?_ ?_
    · rintro i x1 acc Dl G0 G1 hi hD g3 g4 hl3 rfl y
      obtain ⟨rfl, hx1⟩ := y
      have hi2 : i < t.pa.length := by rw [List.length_map] at hi; exact hi
      obtain rfl : V.str t.pa[i] = x1 := by
        have hx1 : (t.pa.map V.str)[i]? = some x1 := hx1
        rw [List.getElem?_map, List.getElem?_eq_getElem hi2] at hx1
        exact Option.some.inj hx1
      obtain ⟨q1, q2⟩ := pa_chars ht _ (List.getElem_mem hi2)
      walk_at "rd"
      refine ⟨.ref T1, b, t.pa[i], t, T1, a1, a2, a3, xs, cs, rfl, hx4.up g3, ht.n2, ht.nd, g3 _ _ hb4, hl.n, q1, q2, fun G2 s2 => ?_⟩
      refine lc_put (by omega) hD (g3.trans s2) (s2 _ _ g4) hl3 fun H5 _ _ => ?_
      rw [← List.take_append_getElem hi2, List.map_append, List.map_append]
      rfl
    rintro acc pl H5 hpl s5 h5 rfl
    rw [List.length_map, List.take_length] at h5
    have k0''' := s5 _ _ k0''
    walk_at "rd"
    intro r H6 hr6 s6 h6
    refine q r rl fl pl acc H6 (s3.trans (s4.trans (s5.trans s6))) ⟨rfl, h6, s6 _ _ (s5 _ _ (s4 _ _ h3)), ?_, s6 _ _ (s5 _ _ h4), s6 _ _ h5, ?_, ?_, ?_, ?_⟩
    · show DqAll _ _ ((t.sg.map (trG t cs)).map sgD)
      rw [List.map_map]
      exact dq3.up (s4.trans (s5.trans s6))
    · show (t.fi.map _).length ≤ 100
      rw [List.length_map]
      exact w1
    · show (t.pa.map _).length ≤ 100
      rw [List.length_map]
      exact w2
    · intro z hz
      rcases List.mem_append.mp hz with hz | hz
      · obtain ⟨u, hu, rfl⟩ := List.mem_map.mp hz
        rw [trS_len]
        exact w3 u (List.mem_append_left _ hu)
      · obtain ⟨u, hu, rfl⟩ := List.mem_map.mp hz
        rw [trS_len]
        exact w3 u (List.mem_append_right _ hu)
    · show (t.sg.map _).length ≤ 100
      rw [List.length_map]
      exact w4
theorem cut_nats (rs : List Nat) (lo hi : Option Int) : ∃ sub : List Nat, cutV (vsN rs) lo hi = vsN sub ∧ sub.length ≤ rs.length := by
  unfold cutV vsN
  refine ⟨(rs.drop (HT.sIx (rs.map fun j : Nat => V.int (j : Int)).length 0 lo)).take (HT.sIx (rs.map fun j : Nat => V.int (j : Int)).length (rs.map fun j : Nat => V.int (j : Int)).length hi - HT.sIx (rs.map fun j : Nat => V.int (j : Int)).length 0 lo), ?_, ?_⟩
  · rw [List.map_take, List.map_drop]
  · rw [List.length_take, List.length_drop]
    omega
def sp_dtext (K : PySem.W.Frag) : Sp := fun vs H Q _ => ∃ x t T a1 a2 a3 xs, ∃ (c : Int) (k : Nat), vs = [x, .int c, .int k] ∧ TgAt H x t T a1 a2 a3 xs ∧ 1 ≤ t.sg.length ∧ t.sg.length ≤ 6 ∧ k < 1000 ∧ ∀ z H', Chars t z → Same H H' → Q (.str z) H'
theorem ok_law_drawn_text (T : Txt K mg) : Z.C0 P w K mg base 2 "_law_drawn_text" (sp_dtext K) := by
  refine T.d_law_drawn_text.c0 sc_law_drawn_text (fun vs H Q E h => ?_) (Z.bd0 fun _ _ _ _ _ _ us hl => match us, hl with | [_, _, _], _ => rfl) (fun f cdv A outer s H vs Q E hr h => ⟨_, (pss_cons (ps_set (i := 3) sc_law_drawn_text.nd rfl (Or.inl rfl) (pe_c0 (ok_law_draws T) hr (by decide) rfl (pa_cons (pv 1) (pa_cons (pv 2) (pa_cons (pe_op (k_addP K) (pe_lst (pa_cons pe_int pa_nil)) (pe_op op_mulP (pe_lst (pa_cons pe_int pa_nil)) pe_int)) pa_nil)))))
  (pss_one (ps_ret (k_bm K PySem.F.plainAttrs_str PySem.F.slot_str_join PySem.F.type_str_join (k_join K) pe_str (pa_cons (pe_lc (own := [("_law_place", 4)]) rfl sc_law_drawn_text.nd (k_iL K (pe_slice (k_sl K) (pv 3) (po_some pe_int) (po_some (pe_op (k_addP K) pe_int (pe_ix (k_ix K) (pv 3) pe_int (fun _ _ => rfl)))))) (blkOk_by (N := ["_law_tongue_here", "_law_cell_here", "_law_k", "_law_row", "_law_place"]) (sc := defScope s_law_drawn_text) (by decide +kernel)) (fun _ _ _ _ _ => (pg_name (i := 4) sc_law_drawn_text.nd rfl (Or.inl rfl))) (fun _ _ _ _ _ => pts_nil) (fun _ _ _ _ _ => (pe_ix (k_ix K) (pe_ix (k_ix K) (pe_ix (k_ix K) (pv 0) pe_int (fun _ _ => rfl)) (pe_op op_modP (pv 4) (pe_callB (k_len K) rfl T.b_len (by decide +kernel) (pa_cons (pe_ix (k_ix K) (pv 0) pe_int (fun _ _ => rfl)) pa_nil))) (fun _ _ => rfl)) pe_int (fun _ _ => rfl)))) pa_nil))))), ?_⟩)
  · obtain ⟨x, t, T, a1, a2, a3, xs, c, k, rfl, _⟩ := h
    rfl
  · obtain ⟨x, t, T1, a1, a2, a3, xs, c, k, rfl, hx, hm1, hm6, hk, q⟩ := h
    rw [st_law_drawn_text]
    walk_at "st"
    obtain ⟨rfl, k0, k1, k2, k3, k4, w1, w2, w3, w4⟩ := hx
    have hxl := k2.length
    rw [List.length_map] at hxl
    have i0 : atI [V.ref a1, V.ref a2, V.ref a3, V.int (t.lo : Nat)] 0 = some (.ref a1) := rfl
    walk_at "rd"
    intro l1 H1 n1 s1 f1
    walk_at "rd"
    intro l2 H2 n2 s2 f2
    walk_at "rd"
    rw [show V.int 12 = V.int ((12 : Nat) : Int) from rfl]
    refine r_rep (xs := [V.int 6]) (by walk_at "lk") (by decide) (by decide) (fun l3 H3 n3 s3 f3 => ?_)
    have f3' : H3 l3 = some (.lst (List.replicate 12 (V.int 6))) := f3
    have f1' : H3 l1 = some (.lst [V.int 13]) := s3 _ _ (s2 _ _ f1)
    refine r_addL (xs := [V.int 13]) (ys := List.replicate 12 (V.int 6)) f1' f3' (fun l4 H4 n4 s4 f4 => ?_) (szl (by decide))
    walk_at "rd"
    refine ⟨c, k, l4, [13] ++ List.replicate 12 6, rfl, hk, by decide, f4.trans (congrArg (fun z => some (HO.lst z)) (by rfl)), by decide, fun rs o1 H5 hd ho1 s5 f5 => ?_⟩
    obtain ⟨hr1, hr2⟩ := hd
    have hr1' : rs.length = 13 := hr1
    have a0 : atI (vsN rs) 0 = some (.int (rs[0]'(by omega) : Nat)) := at_vs (n := 0) rfl (by omega)
    have es : Same H H5 := s1.trans (s2.trans (s3.trans (s4.trans s5)))
    clear hr2 s1 s2 s3 s4 s5 f1 f1' f2 f3 f3' f4 n1 n2 n3 n4 ho1
    walk_at "rd"
    intro l6 H6 n6 s6 f6
    obtain ⟨sub, ec, hsub⟩ := cut_nats rs (some (1 : Int)) (some ((1 : Int) + ((rs[0]'(by omega) : Nat) : Int)))
    rw [ec] at f6
    have k0' := s6 _ _ (es _ _ k0)
    have k1' := s6 _ _ (es _ _ k1)
    have k2' := k2.up (es.trans s6)
    walk_at "rd"
    refine lcW (walk_list (xs := vsN sub)) (fun i acc _ => ∃ cz : List Nat, acc = (cz.map fun c => S [c]).map V.str ∧ cz.length = i ∧ ∀ c ∈ cz, c ∈ ltT t) rfl (fun H' e' => sqL (e' _ _ f6)) (fun _ _ => ⟨[], rfl, rfl, fun _ h => absurd h List.not_mem_nil⟩) ?_ ?_
    · rintro i x1 acc Dl G0 G1 hi hD g3 g4 hl3 ⟨cz, rfl, hcz, hcm⟩ y
      obtain ⟨rfl, hx1⟩ := y
      have hi2 : i < sub.length := by rw [len_vsN] at hi; exact hi
      obtain rfl : V.int (sub[i] : Nat) = x1 := by
        have hx1 : (vsN sub)[i]? = some x1 := hx1
        unfold vsN at hx1
        rw [List.getElem?_map, List.getElem?_eq_getElem hi2] at hx1
        exact Option.some.inj hx1
      have hp : sub[i] % xs.length < xs.length := Nat.mod_lt _ (by omega)
      have hp2 : sub[i] % xs.length < t.sg.length := by omega
      have gi : Dq H6 xs[sub[i] % xs.length] (sgD t.sg[sub[i] % xs.length]) := by
        have := k2'.get _ hp (by rw [List.length_map]; exact hp2)
        rwa [List.getElem_map] at this
      obtain ⟨Ts, v2, v3, ex, hTs, d2, d3⟩ := sg_tup gi
      have hTs1 := g3 _ _ hTs
      have k0'' := g3 _ _ k0'
      have k1'' := g3 _ _ k1'
      have hat : atI xs (((sub[i] : Nat) : Int) % ((xs.length : Nat) : Int)) = some (.ref Ts) := by
        rw [show ((sub[i] : Nat) : Int) % ((xs.length : Nat) : Int) = ((sub[i] % xs.length : Nat) : Int) by rw [Int.natCast_emod]]
        refine atI_nat ?_
        rw [List.getElem?_eq_getElem hp, ex]
      have j0 : atI [V.str (S [t.sg[sub[i] % xs.length].c]), v2, v3] 0 = some (.str (S [t.sg[sub[i] % xs.length].c])) := rfl
      walk_at "rd"
      refine lc_put (by omega) hD g3 g4 hl3 fun H5 _ _ => ⟨cz ++ [t.sg[sub[i] % xs.length].c], ?_, by rw [List.length_append, hcz]; rfl, fun c hc => ?_⟩
      · rw [List.map_append, List.map_append]
        rfl
      · rcases List.mem_append.mp hc with hc | hc
        · exact hcm c hc
        · rw [List.mem_singleton.mp hc]
          exact List.mem_map.mpr ⟨_, List.getElem_mem hp2, rfl⟩
    · rintro acc D2 G2 hD2 s2 h2 ⟨cz, rfl, hcz, hcm⟩
      rw [len_vsN] at hcz
      walk_at "rd"
      rw [show Str.ofString "" = S [] by decide +kernel]
      walk_at "rd"
      refine r_join1 (sqL h2) (by omega) ?_
      exact q (S cz) G2 ⟨fun c hc => hcm c hc, by rw [M.S_len]; omega⟩ (es.trans (s6.trans s2))
def sp_dletters (K : PySem.W.Frag) : Sp := fun vs H Q _ => ∃ (c : Int) (k many : Nat), vs = [.int c, .int k, .int many] ∧ k < 1000 ∧ many ≤ 6 ∧ ∀ cs l H', cs.length = many → cs.Nodup → (∀ c ∈ cs, low c = true) → H l = none → Same H H' → H' l = some (.lst (csV cs)) → Q (.ref l) H'
theorem ok_law_drawn_letters (T : Txt K mg) : Z.C0 P w K mg base 2 "_law_drawn_letters" (sp_dletters K) := by
  refine T.d_law_drawn_letters.c0 sc_law_drawn_letters (fun vs H Q E h => ?_) (Z.bd0 fun _ _ _ _ _ _ us hl => match us, hl with | [_, _, _], _ => rfl) (fun f cdv A outer s H vs Q E hr h => ⟨_, (pss_cons (ps_set (i := 3) sc_law_drawn_letters.nd rfl (Or.inl rfl) (pe_c0 (ok_law_draws T) hr (by decide) rfl (pa_cons (pv 0) (pa_cons (pv 1) (pa_cons (pe_lst (pa_cons pe_int (pa_cons pe_int pa_nil))) pa_nil)))))
  (pss_one (ps_ret (pe_c0 (ok_law_letters T) hr (by decide) rfl (pa_cons (pe_lst (pa_cons pe_int (pa_cons pe_int (pa_cons (pe_ix (k_ix K) (pv 3) pe_int (fun _ _ => rfl)) (pa_cons (pe_ix (k_ix K) (pv 3) pe_int (fun _ _ => rfl)) pa_nil))))) (pa_cons (pv 2) pa_nil)))))), ?_⟩)
  · obtain ⟨c, k, many, rfl, _⟩ := h
    rfl
  · obtain ⟨c, k, many, rfl, hk, hm, q⟩ := h
    rw [st_law_drawn_letters]
    walk_at "st"
    walk_at "rd"
    intro l1 H1 n1 s1 f1
    walk_at "rd"
    refine ⟨c, k, l1, [26, 6], rfl, hk, by decide, f1, by decide, fun rs o1 H2 hd ho1 s2 f2 => ?_⟩
    obtain ⟨hr1, hr2⟩ := hd
    have hr1' : rs.length = 2 := hr1
    have b0 : rs[0] < 26 := hr2 0 (by omega) (by decide)
    have b1 : rs[1] < 6 := hr2 1 (by omega) (by decide)
    have a0 : atI (vsN rs) 0 = some (.int (rs[0] : Nat)) := at_vs (n := 0) rfl (by omega)
    have a1 : atI (vsN rs) 1 = some (.int (rs[1] : Nat)) := at_vs (n := 1) rfl (by omega)
    clear hr2
    walk_at "rd"
    intro l3 H3 n3 s3 f3
    have f3' : H3 l3 = some (.lst (vsN [0, 0, rs[0], rs[1]])) := f3
    walk_at "rd"
    have ee : Same H H3 := s1.trans (s2.trans s3)
    exact ⟨l3, [0, 0, rs[0], rs[1]], many, by simp, rfl, f3', b0, b1, hm, fun cs l H' q1 q2 q3 q4 q5 q6 => q cs l H' q1 q2 q3 (Z.fr q4 ee) (ee.trans q5) q6⟩
def sp_part (K : PySem.W.Frag) : Sp := fun vs H Q _ => ∃ x y z way d v, vs = [x, y, .str z, .int way] ∧ Dq H x d ∧ tongueErr d = some v ∧ ∀ H', Same H H' → Q v H'
theorem ok_law_part (T : Txt K mg) : Z.C0 P w K mg base 8 "_law_part" (sp_part K) := by
  refine T.d_law_part.c0 sc_law_part (fun vs H Q E h => ?_) (Z.bd0 fun _ _ _ _ _ _ us hl => match us, hl with | [_, _, _, _], _ => rfl) (fun f cdv A outer s H vs Q E hr h => ⟨_, (pss_cons (ps_set (i := 4) sc_law_part.nd rfl (Or.inl rfl) pe_str)
  (pss_cons (ps_keep (i := 5) rfl rfl rfl sc_law_part.nd rfl rfl ⟨rfl, by decide, Or.inl T.k_NoTongue⟩ takes0 (fun W pn xe tk hp => (pss_one (ps_if (pt_cmpR (k_eqP K hr.units) (pv 3) pe_int (nomark _))
  (pss_one (ps_expr (pe_ce (ok_turned_tongue T) hr (by decide) rfl tk (pa_cons (pv 0) (pa_cons (pv 1) pa_nil))))) (pss_one (ps_if (pt_cmpR (k_eqP K hr.units) (pv 3) pe_int (nomark _))
  (pss_one (ps_expr (pe_ce (ok_turned_text T) hr (by decide) rfl tk (pa_cons (pv 0) (pa_cons (pv 1) (pa_cons (pv 2) pa_nil)))))) (pss_one (ps_expr (pe_ce (ok_turned_book T) hr (by decide) rfl tk (pa_cons (pv 0) (pa_cons (pv 1) (pa_cons (pe_lst (pa_cons (pv 2) pa_nil)) pa_nil)))))))))))
  (fun a oe cls d pn hz hf => (pss_one (ps_set (i := 4) sc_law_part.nd rfl (Or.inl rfl) (pe_xf (T.ex.i ("NoTongue", "part") (by simp)).xf (T.ex.i ("NoTongue", "part") (by simp)).no hz hf (pv 5))))))
  (pss_one (ps_ret (pv 4))))), ?_⟩)
  · obtain ⟨x, y, z, way, d, v, rfl, _⟩ := h
    rfl
  · obtain ⟨x, y, z, way, d, v, rfl, hx, he, q⟩ := h
    rw [st_law_part]
    walk_at "st"
    walk_at "rd"
    refine r_ite (fun h1 => ?_) (fun h1 => ?_)
    · walk_at "rd"
      refine ⟨x, y, rfl, .inl (.inl ⟨d, v, hx, he, fun dd G2 hdd s2 h2 => ?_⟩)⟩
      refine r_caught ((T.ex.m "NoTongue" (by simp) "NoTongue" (by simp)).trans rfl) (fun ea hea => ?_)
      dsimp only [List.set]
      walk_at "rd"
      refine ⟨rfl, rfl, dd, _, v, rfl, h2, by simp [List.lookup], ?_⟩
      walk_at "rd"
      dsimp only [List.set]
      walk_at "rd"
      exact q _ (s2.trans (Same.new hea))
    · walk_at "rd"
      refine r_ite (fun h2 => ?_) (fun h2 => ?_)
      · walk_at "rd"
        refine ⟨x, y, .str z, rfl, .inl (.inl ⟨d, v, hx, he, fun dd G2 hdd s2 h2 => ?_⟩)⟩
        refine r_caught ((T.ex.m "NoTongue" (by simp) "NoTongue" (by simp)).trans rfl) (fun ea hea => ?_)
        dsimp only [List.set]
        walk_at "rd"
        refine ⟨rfl, rfl, dd, _, v, rfl, h2, by simp [List.lookup], ?_⟩
        walk_at "rd"
        dsimp only [List.set]
        walk_at "rd"
        exact q _ (s2.trans (Same.new hea))
      · walk_at "rd"
        intro lz G1 hlz s1 f1
        walk_at "rd"
        refine ⟨x, y, .ref lz, rfl, .inl (.inl ⟨d, v, hx.up s1, he, fun dd G2 hdd s2 h2 => ?_⟩)⟩
        refine r_caught ((T.ex.m "NoTongue" (by simp) "NoTongue" (by simp)).trans rfl) (fun ea hea => ?_)
        dsimp only [List.set]
        walk_at "rd"
        refine ⟨rfl, rfl, dd, _, v, rfl, h2, by simp [List.lookup], ?_⟩
        walk_at "rd"
        dsimp only [List.set]
        walk_at "rd"
        exact q _ (s1.trans (s2.trans (Same.new hea)))
end
end My

namespace My
open PySem PySem.Spec PyProof.Rows L2 Z M SX TL
section
variable {P : Program} {w : World} {K : PySem.W.Frag} {mg : Str → Option Value} {base : Heap}
def sp_refused (K : PySem.W.Frag) : Sp := fun vs H Q _ => ∃ x y way t T a1 a2 a3 xs e, vs = [x, y, .int way] ∧ TgOk t ∧ TgAt H x t T a1 a2 a3 xs ∧ Dq H y e ∧ lettersOk t.sg.length e = false ∧ ∀ H', Same H H' → Q (.bl true) H'
theorem ok_law_refused (T : Txt K mg) : Z.C0 P w K mg base 8 "_law_refused" (sp_refused K) := by
  refine T.d_law_refused.c0 sc_law_refused (fun vs H Q E h => ?_) (Z.bd0 fun _ _ _ _ _ _ us hl => match us, hl with | [_, _, _], _ => rfl) (fun f cdv A outer s H vs Q E hr h => ⟨_, (pss_cons (ps_set (i := 3) sc_law_refused.nd rfl (Or.inl rfl) pe_non)
  (pss_cons (ps_set (i := 4) sc_law_refused.nd rfl (Or.inl rfl) (k_bm K PySem.F.plainAttrs_str PySem.F.slot_str_join PySem.F.type_str_join (k_join K) pe_str (pa_cons (pe_lc (own := [("_law_one", 6)]) rfl sc_law_refused.nd (k_iL K (pe_ix (k_ix K) (pv 0) pe_int (fun _ _ => rfl))) (blkOk_by (N := ["_law_tongue_here", "_law_thing", "_law_way", "_law_kept", "_law_text", "e", "_law_one"]) (sc := defScope s_law_refused) (by decide +kernel)) (fun _ _ _ _ _ => (pg_name (i := 6) sc_law_refused.nd rfl (Or.inl rfl))) (fun _ _ _ _ _ => pts_nil) (fun _ _ _ _ _ => (pe_ix (k_ix K) (pv 6) pe_int (fun _ _ => rfl)))) pa_nil)))
  (pss_cons (ps_keep (i := 5) rfl rfl rfl sc_law_refused.nd rfl rfl ⟨rfl, by decide, Or.inl T.k_DearError⟩ takes0 (fun W pn xe tk hp => (pss_one (ps_if (pt_cmpR (k_eqP K hr.units) (pv 2) pe_int (nomark _))
  (pss_one (ps_expr (pe_ce (ok_turned_tongue T) hr (by decide) rfl tk (pa_cons (pv 0) (pa_cons (pv 1) pa_nil))))) (pss_one (ps_if (pt_cmpR (k_eqP K hr.units) (pv 2) pe_int (nomark _))
  (pss_one (ps_expr (pe_ce (ok_turned_text T) hr (by decide) rfl tk (pa_cons (pv 0) (pa_cons (pv 1) (pa_cons (pv 4) pa_nil)))))) (pss_one (ps_expr (pe_ce (ok_turned_book T) hr (by decide) rfl tk (pa_cons (pv 0) (pa_cons (pv 1) (pa_cons (pe_lst (pa_cons (pv 4) (pa_cons (pv 4) pa_nil))) pa_nil)))))))))))
  (fun a oe cls d pn hz hf => (pss_one (ps_set (i := 3) sc_law_refused.nd rfl (Or.inl rfl) (pv 5)))))
  (pss_one (ps_ret (pe_c0 (ok_law_is_no_turn T) hr (by decide) rfl (pa_cons (pv 3) pa_nil))))))), ?_⟩)
  · obtain ⟨x, y, way, t, T, a1, a2, a3, xs, e, rfl, _⟩ := h
    rfl
  · obtain ⟨x, y, way, t, T1, a1, a2, a3, xs, e, rfl, ht, hx, hy, hl, q⟩ := h
    rw [st_law_refused]
    walk_at "st"
    have hx0 := hx
    obtain ⟨rfl, k0, k1, k2, k3, k4, w1, w2, w3, w4⟩ := hx
    have hxl := k2.length
    rw [List.length_map] at hxl
    have hn6 := ht.n2
    have i0 : atI [V.ref a1, V.ref a2, V.ref a3, V.int (t.lo : Nat)] 0 = some (.ref a1) := rfl
    walk_at "rd"
    refine lcW (walk_list (xs := xs)) (fun i acc _ => acc = ((t.sg.take i).map fun s => S [s.c]).map V.str) rfl (fun _ _ => by walk_at "lk") (fun _ _ => rfl) ?_ ?_
    · rintro i x acc Dl G0 G1 hi hD g3 g4 hl3 rfl y
      obtain ⟨rfl, hx⟩ := y
      have hi2 : i < t.sg.length := by omega
      obtain rfl : xs[i] = x := Option.some.inj ((List.getElem?_eq_getElem hi).symm.trans hx)
      have gi : Dq H xs[i] (sgD t.sg[i]) := by
        have := k2.get i hi (by rw [List.length_map]; exact hi2)
        rwa [List.getElem_map] at this
      obtain ⟨Ts, v2, v3, ex, hTs, d2, d3⟩ := sg_tup gi
      rw [ex]
      have j0 : atI [V.str (S [t.sg[i].c]), v2, v3] 0 = some (.str (S [t.sg[i].c])) := rfl
      walk_at "rd"
      refine lc_put (by omega) hD g3 g4 hl3 fun H5 _ _ => ?_
      rw [← List.take_append_getElem hi2, List.map_append, List.map_append]
      rfl
    rintro acc sl H1 hsl e1 f1 rfl
    rw [hxl, List.take_length, lt_strs] at f1
    have hll : (ltT t).length = t.sg.length := List.length_map _
    walk_at "rd"
    rw [show Str.ofString "" = S [] by decide +kernel]
    walk_at "rd"
    refine r_join1 (sqL f1) (by omega) ?_
    have hx1 := hx0.up e1
    have hy1 := hy.up e1
    have fin : ∀ a {H1'}, Same H1 H1' → H1' a = none → sp_noturn (K := K) [.ref a] (upd H1' a (ExH (.ref (He.ga K "NoTurn")) none a)) Q E0 := fun a H1' e ha => ⟨a, rfl, upd_same, fun H' e' => q H' (e1.trans (e.trans ((Same.new ha).trans e')))⟩
    walk_at "rd"
    refine r_ite (fun h1 => ?_) (fun h1 => ?_)
    · walk_at "rd"
      refine ⟨.ref T1, y, rfl, .inl (.inr ⟨t, T1, a1, a2, a3, xs, e, ht, hx1, hy1, hl, fun H2 e2 => ?_⟩)⟩
      refine r_caught ((T.ex.m "NoTurn" (by simp) "DearError" (by simp)).trans rfl) (fun a ha => ?_)
      dsimp only [List.set]
      walk_at "rd"
      dsimp only [List.set]
      walk_at "rd"
      exact fin a e2 ha
    · walk_at "rd"
      refine r_ite (fun h2 => ?_) (fun h2 => ?_)
      · walk_at "rd"
        refine ⟨.ref T1, y, _, rfl, .inl (.inr ⟨t, T1, a1, a2, a3, xs, e, ht, hx1, hy1, hl, fun H2 e2 => ?_⟩)⟩
        refine r_caught ((T.ex.m "NoTurn" (by simp) "DearError" (by simp)).trans rfl) (fun a ha => ?_)
        dsimp only [List.set]
        walk_at "rd"
        dsimp only [List.set]
        walk_at "rd"
        exact fin a e2 ha
      · walk_at "rd"
        intro l3 H3 n3 e3 f3
        walk_at "rd"
        refine ⟨.ref T1, y, _, rfl, .inl (.inr ⟨t, T1, a1, a2, a3, xs, e, ht, hx1.up e3, hy1.up e3, hl, fun H2 e2 => ?_⟩)⟩
        refine r_caught ((T.ex.m "NoTurn" (by simp) "DearError" (by simp)).trans rfl) (fun a ha => ?_)
        dsimp only [List.set]
        walk_at "rd"
        dsimp only [List.set]
        walk_at "rd"
        exact fin a (e3.trans e2) ha
theorem err4 (s f p l : PyData) : tongueErr (.tuple [s, f, p, l]) = (if areSigns s = false then some (.str "signs") else if unlikeOk 1 (lettersOf s) f = false then some (.str "firsts") else if unlikeOk 2 (lettersOf s) p = false then some (.str "pairs") else if longOk l = false then some (.str "longest") else none) := rfl
theorem tg_parts {t : Tg} (h : TgOk t) : areSigns (.list (t.sg.map sgD)) = true ∧ unlikeOk 1 (lettersOf (.list (t.sg.map sgD))) (strsD t.fi) = true ∧ unlikeOk 2 (lettersOf (.list (t.sg.map sgD))) (strsD t.pa) = true := by
  have h2 := tgErr_ok h
  have e : tgD t = .tuple [.list (t.sg.map sgD), strsD t.fi, strsD t.pa, .int (t.lo : Nat)] := rfl
  rw [e, err4] at h2
  refine ⟨?_, ?_, ?_⟩
  · cases q : areSigns (.list (t.sg.map sgD)) with
    | true => rfl
    | false => rw [q, if_pos rfl] at h2; cases h2
  · cases q : unlikeOk 1 (lettersOf (.list (t.sg.map sgD))) (strsD t.fi) with
    | true => rfl
    | false =>
      rw [q] at h2
      split at h2
      · cases h2
      · rw [if_pos rfl] at h2; cases h2
  · cases q : unlikeOk 2 (lettersOf (.list (t.sg.map sgD))) (strsD t.pa) with
    | true => rfl
    | false =>
      rw [q] at h2
      split at h2
      · cases h2
      · split at h2
        · cases h2
        · rw [if_pos rfl] at h2; cases h2
theorem bad_long {t : Tg} (h : TgOk t) {l : PyData} (hl : longOk l = false) : tongueErr (.tuple [.list (t.sg.map sgD), strsD t.fi, strsD t.pa, l]) = some (.str "longest") := by
  obtain ⟨a, b, c⟩ := tg_parts h
  rw [err4, a, b, c, hl]
  rfl
theorem bad_first {t : Tg} (h : TgOk t) {f p l : PyData} (hf : unlikeOk 1 (lettersT t) f = false) : tongueErr (.tuple [.list (t.sg.map sgD), f, p, l]) = some (.str "firsts") := by
  obtain ⟨a, b, c⟩ := tg_parts h
  have el : lettersOf (.list (t.sg.map sgD)) = lettersT t := sgName_map t.sg
  rw [err4, a, el, hf]
  rfl
theorem bad_pair {t : Tg} (h : TgOk t) {p l : PyData} (hf : unlikeOk 2 (lettersT t) p = false) : tongueErr (.tuple [.list (t.sg.map sgD), strsD t.fi, p, l]) = some (.str "pairs") := by
  obtain ⟨a, b, c⟩ := tg_parts h
  have el : lettersOf (.list (t.sg.map sgD)) = lettersT t := sgName_map t.sg
  rw [el] at b
  rw [err4, a, el, b, hf]
  rfl
theorem bad_sign {d : PyData} {ds : List PyData} {f p l : PyData} (h : isSignD d = false) : tongueErr (.tuple [.list (d :: ds), f, p, l]) = some (.str "signs") := by
  have e : areSigns (.list (d :: ds)) = false := by
    show (decide (2 ≤ (d :: ds).length ∧ (d :: ds).length ≤ 6) && ((d :: ds).all isSignD && decide (((d :: ds).map signName).Nodup))) = false
    rw [List.all_cons, h, Bool.false_and, Bool.false_and, Bool.and_false]
  rw [err4, e]
  rfl
theorem not_letter {t : Tg} (h : TgOk t) : S [33] ∉ lettersT t := fun q => by
  have := letter_low h q
  revert this
  decide
theorem text_bad {n : Nat} {ls : List Str} {z : Str} {ds : List PyData} (hd : PyData.str z ∈ ds) (h : textOk n ls (.str z) = false) : unlikeOk n ls (.list ds) = false := by
  show (ds.all (textOk n ls) && _) = false
  have : ds.all (textOk n ls) = false := by
    rw [Bool.eq_false_iff]
    intro q
    rw [List.all_eq_true.mp q _ hd] at h
    cases h
  rw [this, Bool.false_and]
def sp_no_tongues (K : PySem.W.Frag) : Sp := fun vs H Q _ => ∃ x t T a1 a2 a3 xs, vs = [x] ∧ TgOk t ∧ TgAt H x t T a1 a2 a3 xs ∧ ∀ l ps H', Same H H' → H' l = some (.lst ps) → ps.length = 10 → (∀ p ∈ ps, ∃ T x v d, p = .ref T ∧ H' T = some (.tup [x, v]) ∧ Dq H' x d ∧ tongueErr d = some v) → Q (.ref l) H'
theorem ok_law_no_tongues (T : Txt K mg) : Z.C0 P w K mg base 1 "_law_no_tongues" (sp_no_tongues K) := by
  refine T.d_law_no_tongues.c0 sc_law_no_tongues (fun vs H Q E h => ?_) (Z.bd0 fun _ _ _ _ _ _ us hl => match us, hl with | [_], _ => rfl) (fun f cdv A outer s H vs Q E hr h => ⟨_, (pss_cons (ps_asg (pv 0) (k_tup (n := 4) K rfl (pgs_cons (pg_name (i := 1) sc_law_no_tongues.nd rfl (Or.inl rfl)) (pgs_cons (pg_name (i := 2) sc_law_no_tongues.nd rfl (Or.inl rfl)) (pgs_cons (pg_name (i := 3) sc_law_no_tongues.nd rfl (Or.inl rfl)) (pgs_cons (pg_name (i := 4) sc_law_no_tongues.nd rfl (Or.inl rfl)) pgs_nil))))))
  (pss_cons (ps_asg (pe_ix (k_ix K) (pv 1) pe_int (fun _ _ => rfl)) (k_tup (n := 3) K rfl (pgs_cons (pg_name (i := 5) sc_law_no_tongues.nd rfl (Or.inl rfl)) (pgs_cons (pg_name (i := 6) sc_law_no_tongues.nd rfl (Or.inl rfl)) (pgs_cons (pg_name (i := 7) sc_law_no_tongues.nd rfl (Or.inl rfl)) pgs_nil)))))
  (pss_cons (ps_set (i := 8) sc_law_no_tongues.nd rfl (Or.inl rfl) (pe_lst (pa_cons (pe_tup (pa_cons pe_non (pa_cons pe_non pa_nil))) (pa_cons (pe_tup (pa_cons (pe_callTy (k_list K) rfl T.b_list (by decide +kernel) (pa_cons (pv 0) pa_nil)) (pa_cons pe_non pa_nil))) (pa_cons (pe_tup (pa_cons (pe_tup (pa_cons (pv 1) (pa_cons (pv 2) (pa_cons (pv 3) pa_nil)))) (pa_cons pe_non pa_nil))) (pa_cons (pe_tup (pa_cons (pe_tup (pa_cons (pv 1) (pa_cons (pv 2) (pa_cons (pv 3) (pa_cons pe_int pa_nil))))) (pa_cons pe_str pa_nil))) pa_nil))))))
  (pss_cons (ps_set (i := 8) sc_law_no_tongues.nd rfl (Or.inl rfl) (pe_op (k_addP K) (pv 8) (pe_lst (pa_cons (pe_tup (pa_cons (pe_tup (pa_cons (pv 1) (pa_cons (pv 2) (pa_cons (pv 3) (pa_cons pe_bl pa_nil))))) (pa_cons pe_str pa_nil))) (pa_cons (pe_tup (pa_cons (pe_tup (pa_cons (pe_slice (k_sl K) (pv 1) po_none (po_some pe_int)) (pa_cons (pe_lst pa_nil) (pa_cons (pe_lst pa_nil) (pa_cons (pv 4) pa_nil))))) (pa_cons pe_str pa_nil))) pa_nil)))))
  (pss_cons (ps_set (i := 8) sc_law_no_tongues.nd rfl (Or.inl rfl) (pe_op (k_addP K) (pv 8) (pe_lst (pa_cons (pe_tup (pa_cons (pe_tup (pa_cons (pe_op (k_addP K) (pe_lst (pa_cons (pe_tup (pa_cons (pv 5) (pa_cons (pe_tup (pa_cons pe_int (pa_cons pe_int pa_nil))) (pa_cons (pv 7) pa_nil)))) pa_nil)) (pe_slice (k_sl K) (pv 1) (po_some pe_int) po_none)) (pa_cons (pv 2) (pa_cons (pv 3) (pa_cons (pv 4) pa_nil))))) (pa_cons pe_str pa_nil))) pa_nil))))
  (pss_cons (ps_set (i := 8) sc_law_no_tongues.nd rfl (Or.inl rfl) (pe_op (k_addP K) (pv 8) (pe_lst (pa_cons (pe_tup (pa_cons (pe_tup (pa_cons (pv 1) (pa_cons (pe_lst (pa_cons pe_str pa_nil)) (pa_cons (pv 3) (pa_cons (pv 4) pa_nil))))) (pa_cons pe_str pa_nil))) (pa_cons (pe_tup (pa_cons (pe_tup (pa_cons (pv 1) (pa_cons (pv 2) (pa_cons (pe_op (k_addP K) (pv 3) (pe_lst (pa_cons pe_str pa_nil))) (pa_cons (pv 4) pa_nil))))) (pa_cons pe_str pa_nil))) pa_nil)))))
  (pss_one (ps_ret (pe_op (k_addP K) (pv 8) (pe_lst (pa_cons (pe_tup (pa_cons (pe_tup (pa_cons (pe_op (k_addP K) (pe_lst (pa_cons (pe_tup (pa_cons (pv 5) (pa_cons (pv 6) (pa_cons (pe_tup (pa_cons pe_int (pa_cons pe_int pa_nil))) pa_nil)))) pa_nil)) (pe_slice (k_sl K) (pv 1) (po_some pe_int) po_none)) (pa_cons (pv 2) (pa_cons (pv 3) (pa_cons pe_int pa_nil))))) (pa_cons pe_str pa_nil))) pa_nil))))))))))), ?_⟩)
  · obtain ⟨x, t, T, a1, a2, a3, xs, rfl, _⟩ := h
    rfl
  · obtain ⟨x, t, T1, a1, a2, a3, xs, rfl, ht, hx, q⟩ := h
    rw [st_law_no_tongues]
    walk_at "st"
    have hx0 := hx
    obtain ⟨rfl, k0, k1, k2, k3, k4, w1, w2, w3, w4⟩ := hx
    have hxl := k2.length
    rw [List.length_map] at hxl
    have hn6 := ht.n2
    obtain ⟨s0, sg', hsg⟩ : ∃ s0 sg', t.sg = s0 :: sg' := by
      have := ht.n1
      cases h : t.sg with
      | nil => rw [h] at this; exact absurd this (by decide)
      | cons a b => exact ⟨a, b, rfl⟩
    have k2c : DqAll H xs (sgD s0 :: sg'.map sgD) := by
      have := k2
      rw [hsg] at this
      exact this
    obtain ⟨v0, xs', rfl, d0, hd'⟩ := DqAll.cons_inv k2c
    obtain ⟨T0, v2, v3, rfl, hT0, dv2, dv3⟩ := sg_tup d0
    have hl1 : xs'.length = sg'.length := by rw [hd'.length, List.length_map]
    have hl2 : sg'.length ≤ 5 := by
      rw [hsg, List.length_cons] at hn6
      omega
    have hc1 : cutV (V.ref T0 :: xs') (some 1) none = xs' := cut_from (V.ref T0 :: xs') 1
    have hc2 : cutV (V.ref T0 :: xs') none (some 1) = [V.ref T0] := cut_to (V.ref T0 :: xs') 1
    have hxx : atI (V.ref T0 :: xs') 0 = some (.ref T0) := atI_nat (j := 0) rfl
    have hpl : (t.pa.map V.str).length ≤ 100 := by rw [List.length_map]; exact w2
    walk_at "rd"
    intro a1_ G1 n1 s1 f1
    walk_at "rd"
    intro b2 G2 n2 s2 f2
    walk_at "rd"
    intro a2_ G3 n3 s3 f3
    walk_at "rd"
    intro b3 G4 n4 s4 f4
    walk_at "rd"
    intro a3_ G5 n5 s5 f5
    walk_at "rd"
    intro b4 G6 n6 s6 f6
    walk_at "rd"
    intro a4_ G7 n7 s7 f7
    walk_at "rd"
    intro l1 G8 n8 s8 f8
    walk_at "rd"
    intro b5 G9 n9 s9 f9
    walk_at "rd"
    intro a5_ G10 n10 s10 f10
    walk_at "rd"
    intro c6 G11 n11 s11 f11
    rw [hc2] at f11
    walk_at "rd"
    intro d6 G12 n12 s12 f12
    walk_at "rd"
    intro e6 G13 n13 s13 f13
    walk_at "rd"
    intro b6 G14 n14 s14 f14
    walk_at "rd"
    intro a6_ G15 n15 s15 f15
    walk_at "rd"
    intro l2 G16 n16 s16 f16
    walk_at "rd"
    intro l3 G17 n17 s17 f17
    walk_at "rd"
    intro c7 G18 n18 s18 f18
    walk_at "rd"
    intro d7 G19 n19 s19 f19
    walk_at "rd"
    intro e7 G20 n20 s20 f20
    walk_at "rd"
    intro f7 G21 n21 s21 f21
    rw [hc1] at f21
    walk_at "rd"
    intro g7 G22 n22 s22 f22
    walk_at "rd"
    intro b7 G23 n23 s23 f23
    walk_at "rd"
    intro a7_ G24 n24 s24 f24
    walk_at "rd"
    intro l4 G25 n25 s25 f25
    walk_at "rd"
    intro l5 G26 n26 s26 f26
    walk_at "rd"
    intro c8 G27 n27 s27 f27
    walk_at "rd"
    intro b8 G28 n28 s28 f28
    walk_at "rd"
    intro a8_ G29 n29 s29 f29
    walk_at "rd"
    intro c9 G30 n30 s30 f30
    walk_at "rd"
    intro d9 G31 n31 s31 f31
    walk_at "rd"
    intro b9 G32 n32 s32 f32
    walk_at "rd"
    intro a9_ G33 n33 s33 f33
    walk_at "rd"
    intro l6 G34 n34 s34 f34
    walk_at "rd"
    intro l7 G35 n35 s35 f35
    walk_at "rd"
    intro c10 G36 n36 s36 f36
    walk_at "rd"
    intro d10 G37 n37 s37 f37
    walk_at "rd"
    intro e10 G38 n38 s38 f38
    walk_at "rd"
    intro f10 G39 n39 s39 f39
    rw [hc1] at f39
    walk_at "rd"
    intro g10 G40 n40 s40 f40
    walk_at "rd"
    intro b10 G41 n41 s41 f41
    walk_at "rd"
    intro a10_ G42 n42 s42 f42
    walk_at "rd"
    intro l8 G43 n43 s43 f43
    walk_at "rd"
    intro l9 G44 n44 s44 f44
    have ka1_ : G44 a1_ = some (.tup [.non, .non]) := by walk_at "lk"
    have kb2 : G44 b2 = some (.lst [.ref a1, .ref a2, .ref a3, .int (t.lo : Nat)]) := by walk_at "lk"
    have ka2_ : G44 a2_ = some (.tup [.ref b2, .non]) := by walk_at "lk"
    have kb3 : G44 b3 = some (.tup [.ref a1, .ref a2, .ref a3]) := by walk_at "lk"
    have ka3_ : G44 a3_ = some (.tup [.ref b3, .non]) := by walk_at "lk"
    have kb4 : G44 b4 = some (.tup [.ref a1, .ref a2, .ref a3, .int 0]) := by walk_at "lk"
    have ka4_ : G44 a4_ = some (.tup [.ref b4, .str (Str.ofString "longest")]) := by walk_at "lk"
    have kb5 : G44 b5 = some (.tup [.ref a1, .ref a2, .ref a3, .bl true]) := by walk_at "lk"
    have ka5_ : G44 a5_ = some (.tup [.ref b5, .str (Str.ofString "longest")]) := by walk_at "lk"
    have kc6 : G44 c6 = some (.lst [.ref T0]) := by walk_at "lk"
    have kd6 : G44 d6 = some (.lst []) := by walk_at "lk"
    have ke6 : G44 e6 = some (.lst []) := by walk_at "lk"
    have kb6 : G44 b6 = some (.tup [.ref c6, .ref d6, .ref e6, .int (t.lo : Nat)]) := by walk_at "lk"
    have ka6_ : G44 a6_ = some (.tup [.ref b6, .str (Str.ofString "signs")]) := by walk_at "lk"
    have kc7 : G44 c7 = some (.tup [.int 0, .int 1]) := by walk_at "lk"
    have kd7 : G44 d7 = some (.tup [.str (S [s0.c]), .ref c7, v3]) := by walk_at "lk"
    have kg7 : G44 g7 = some (.lst ([.ref d7] ++ xs')) := by walk_at "lk"
    have kb7 : G44 b7 = some (.tup [.ref g7, .ref a2, .ref a3, .int (t.lo : Nat)]) := by walk_at "lk"
    have ka7_ : G44 a7_ = some (.tup [.ref b7, .str (Str.ofString "signs")]) := by walk_at "lk"
    have kc8 : G44 c8 = some (.lst [.str (Str.ofString "!")]) := by walk_at "lk"
    have kb8 : G44 b8 = some (.tup [.ref a1, .ref c8, .ref a3, .int (t.lo : Nat)]) := by walk_at "lk"
    have ka8_ : G44 a8_ = some (.tup [.ref b8, .str (Str.ofString "firsts")]) := by walk_at "lk"
    have kd9 : G44 d9 = some (.lst (t.pa.map V.str ++ [.str (Str.ofString "!!")])) := by walk_at "lk"
    have kb9 : G44 b9 = some (.tup [.ref a1, .ref a2, .ref d9, .int (t.lo : Nat)]) := by walk_at "lk"
    have ka9_ : G44 a9_ = some (.tup [.ref b9, .str (Str.ofString "pairs")]) := by walk_at "lk"
    have kc10 : G44 c10 = some (.tup [.int 0, .int 1]) := by walk_at "lk"
    have kd10 : G44 d10 = some (.tup [.str (S [s0.c]), v2, .ref c10]) := by walk_at "lk"
    have kg10 : G44 g10 = some (.lst ([.ref d10] ++ xs')) := by walk_at "lk"
    have kb10 : G44 b10 = some (.tup [.ref g10, .ref a2, .ref a3, .int 0]) := by walk_at "lk"
    have ka10_ : G44 a10_ = some (.tup [.ref b10, .str (Str.ofString "signs")]) := by walk_at "lk"
    have kf : G44 l9 = some (.lst [.ref a1_, .ref a2_, .ref a3_, .ref a4_, .ref a5_, .ref a6_, .ref a7_, .ref a8_, .ref a9_, .ref a10_]) := by walk_at "lk"
    have ss : Same H G44 := by walk_at "sm"
    have dS : Dq G44 (.ref a1) (.list (t.sg.map sgD)) := .lst (ss _ _ k1) (k2.up ss) (by simp; omega)
    have dF : Dq G44 (.ref a2) (strsD t.fi) := .lst (ss _ _ k3) (dq_strs fun z hz => Nat.le_trans (w3 z (List.mem_append_left _ hz)) (by decide)) (by rw [List.length_map]; omega)
    have dP : Dq G44 (.ref a3) (strsD t.pa) := .lst (ss _ _ k4) (dq_strs fun z hz => Nat.le_trans (w3 z (List.mem_append_right _ hz)) (by decide)) (by rw [List.length_map]; omega)
    have d0' : Dq G44 (.ref T0) (sgD s0) := d0.up ss
    have dR := hd'.up ss
    have c1l : (S [s0.c]).length ≤ 1000000 := by rw [M.S_len, List.length_singleton]; decide
    have p01 : isPrice (.tuple [.int 0, .int 1]) = false := by decide
    refine q l9 _ G44 ss kf rfl ?_
    intro p hp
    simp only [List.mem_cons, List.not_mem_nil, or_false] at hp
    rcases hp with rfl | rfl | rfl | rfl | rfl | rfl | rfl | rfl | rfl | rfl
    · exact ⟨_, _, _, .none, rfl, ka1_, .non, rfl⟩
    · exact ⟨_, _, _, .list [.list (t.sg.map sgD), strsD t.fi, strsD t.pa, .int (t.lo : Nat)], rfl, ka2_, .lst kb2 (.cons dS (.cons dF (.cons dP (.cons (.int _) .nil)))) (by simp), rfl⟩
    · exact ⟨_, _, _, .tuple [.list (t.sg.map sgD), strsD t.fi, strsD t.pa], rfl, ka3_, .tup kb3 (.cons dS (.cons dF (.cons dP .nil))) (by simp), rfl⟩
    · exact ⟨_, _, _, _, rfl, ka4_, .tup kb4 (.cons dS (.cons dF (.cons dP (.cons (.int _) .nil)))) (by simp), bad_long ht rfl⟩
    · exact ⟨_, _, _, _, rfl, ka5_, .tup kb5 (.cons dS (.cons dF (.cons dP (.cons (.bl _) .nil)))) (by simp), bad_long ht rfl⟩
    · refine ⟨_, _, _, .tuple [.list [sgD s0], .list [], .list [], .int (t.lo : Nat)], rfl, ka6_, .tup kb6 (.cons (.lst kc6 (.cons d0' .nil) (by simp)) (.cons (.lst kd6 .nil (by simp)) (.cons (.lst ke6 .nil (by simp)) (.cons (.int _) .nil)))) (by simp), ?_⟩
      rw [err4, show areSigns (.list [sgD s0]) = false from rfl, if_pos rfl]
    · refine ⟨_, _, _, .tuple [.list (.tuple [.str (S [s0.c]), .tuple [.int 0, .int 1], lastD s0.l] :: sg'.map sgD), strsD t.fi, strsD t.pa, .int (t.lo : Nat)], rfl, ka7_, .tup kb7 (.cons (.lst kg7 (.cons (.tup kd7 (.cons (.str _ c1l) (.cons (.tup kc7 (.cons (.int _) (.cons (.int _) .nil)) (by simp)) (.cons (dv3.up ss) .nil))) (by simp)) dR) (by simp; omega)) (.cons dF (.cons dP (.cons (.int _) .nil)))) (by simp), bad_sign ?_⟩
      show (isLetter (.str (S [s0.c])) && (isPrice (.tuple [.int 0, .int 1]) && _)) = false
      rw [p01, Bool.false_and, Bool.and_false]
    · refine ⟨_, _, _, .tuple [.list (t.sg.map sgD), .list [.str (Str.ofString "!")], strsD t.pa, .int (t.lo : Nat)], rfl, ka8_, .tup kb8 (.cons dS (.cons (.lst kc8 (.cons (.str _ (by decide +kernel)) .nil) (by simp)) (.cons dP (.cons (.int _) .nil)))) (by simp), bad_first ht (text_bad List.mem_cons_self ?_)⟩
      show (decide ((Str.ofString "!").length = 1) && (tl (Str.ofString "!")).all fun c => decide (S [c] ∈ lettersT t)) = false
      rw [show tl (Str.ofString "!") = [33] by decide +kernel, List.all_cons, decide_eq_false (not_letter ht), Bool.false_and, Bool.and_false]
    · refine ⟨_, _, _, .tuple [.list (t.sg.map sgD), strsD t.fi, .list (t.pa.map PyData.str ++ [.str (Str.ofString "!!")]), .int (t.lo : Nat)], rfl, ka9_, .tup kb9 (.cons dS (.cons dF (.cons (.lst kd9 (DqAll.app (dq_strs fun z hz => Nat.le_trans (w3 z (List.mem_append_right _ hz)) (by decide)) (.cons (.str _ (by decide +kernel)) .nil)) (by rw [List.length_append, List.length_map, List.length_singleton]; omega)) (.cons (.int _) .nil)))) (by simp), bad_pair ht (text_bad (List.mem_append_right _ List.mem_cons_self) ?_)⟩
      show (decide ((Str.ofString "!!").length = 2) && (tl (Str.ofString "!!")).all fun c => decide (S [c] ∈ lettersT t)) = false
      rw [show tl (Str.ofString "!!") = [33, 33] by decide +kernel, List.all_cons, decide_eq_false (not_letter ht), Bool.false_and, Bool.and_false]
    · refine ⟨_, _, _, .tuple [.list (.tuple [.str (S [s0.c]), fracD s0.p, .tuple [.int 0, .int 1]] :: sg'.map sgD), strsD t.fi, strsD t.pa, .int 0], rfl, ka10_, .tup kb10 (.cons (.lst kg10 (.cons (.tup kd10 (.cons (.str _ c1l) (.cons (dv2.up ss) (.cons (.tup kc10 (.cons (.int _) (.cons (.int _) .nil)) (by simp)) .nil))) (by simp)) dR) (by simp; omega)) (.cons dF (.cons dP (.cons (.int _) .nil)))) (by simp), bad_sign ?_⟩
      show (isLetter (.str (S [s0.c])) && (isPrice (fracD s0.p) && (isNone (.tuple [.int 0, .int 1]) || isPrice (.tuple [.int 0, .int 1])))) = false
      rw [p01, Bool.or_false, show isNone (.tuple [.int 0, .int 1]) = false from rfl, Bool.and_false, Bool.and_false]
end
end My

namespace My
open PySem PySem.Spec PyProof.Rows L2 Z M SX TL
section
variable {P : Program} {w : World} {K : PySem.W.Frag} {mg : Str → Option Value} {base : Heap}
def dsC (cs : List Nat) : List PyData := cs.map fun c => PyData.str (S [c])
theorem dqC {H : Hp} (cs : List Nat) : DqAll H (csV cs) (dsC cs) := dq_cs cs
theorem csFrom (cs : List Nat) (k : Nat) : cutV (csV cs) (some (k : Int)) none = csV (cs.drop k) := by
  rw [cut_from]
  unfold csV
  rw [List.map_drop]
theorem csTo (cs : List Nat) (k : Nat) : cutV (csV cs) none (some (k : Int)) = csV (cs.take k) := by
  rw [cut_to]
  unfold csV
  rw [List.map_take]
theorem csNeg (cs : List Nat) : cutV (csV cs) none (some (-1)) = csV cs.dropLast := by
  rw [cut_neg1]
  unfold csV
  rw [List.map_dropLast]
theorem lk_len {m : Nat} {ds : List PyData} (h : ds.length ≠ m) : lettersOk m (.list ds) = false := by
  show (decide (ds.length = m) && _) = false
  rw [decide_eq_false h]
  rfl
theorem lk_odd {m : Nat} {ds : List PyData} {d : PyData} (hd : d ∈ ds) (h : isLetter d = false) : lettersOk m (.list ds) = false := by
  show (decide (ds.length = m) && (ds.all isLetter && _)) = false
  have : ds.all isLetter = false := by
    rw [Bool.eq_false_iff]
    intro q
    rw [List.all_eq_true.mp q _ hd] at h
    cases h
  rw [this, Bool.false_and, Bool.and_false]
theorem lk_dup {m : Nat} {cs : List Nat} (h : ¬ cs.Nodup) : lettersOk m (.list (dsC cs)) = false := by
  show (decide ((dsC cs).length = m) && ((dsC cs).all isLetter && decide (((dsC cs).map strOf).Nodup))) = false
  rw [decide_eq_false (p := ((dsC cs).map strOf).Nodup) (fun q => h ((letters_nd cs).mp q)), Bool.and_false, Bool.and_false]
theorem abc_more {cs : List Nat} (h : cs.length ≤ 6) : ((Str.ofString "abcdefghijklmnopqrstuvwxyz").cps.toList.filter fun c => !decide (c ∈ cs)) ≠ [] := by
  intro e
  rw [List.filter_eq_nil_iff] at e
  have hn : (Str.ofString "abcdefghijklmnopqrstuvwxyz").cps.toList.Nodup := by decide +kernel
  have hl : (Str.ofString "abcdefghijklmnopqrstuvwxyz").cps.toList.length = 26 := by decide +kernel
  have := perm_sub' (r := (Str.ofString "abcdefghijklmnopqrstuvwxyz").cps.toList) (l := cs) hn (fun z hz => by
    have := e z hz
    simpa using this) (by omega)
  have := this.length_eq
  omega
theorem inV_cs (c : Nat) (cs : List Nat) : inV (.str ⟨#[c]⟩) (csV cs) = decide (c ∈ cs) := by
  have e : csV cs = (cs.map fun c => S [c]).map V.str := by
    unfold csV
    rw [List.map_map]
    rfl
  rw [e, inV_strs]
  rw [decide_eq_decide]
  constructor
  · intro h
    obtain ⟨d, hd, e2⟩ := List.mem_map.mp h
    have : S [d] = S [c] := e2
    exact (S1_inj this) ▸ hd
  · intro h
    exact List.mem_map.mpr ⟨c, h, rfl⟩
theorem flat_cs (cs : List Nat) : (csV cs).all flatV = true := by
  unfold csV
  rw [List.all_map]
  exact List.all_eq_true.mpr fun _ _ => rfl
theorem mulOk2 (c : Nat) : MulOk (S [c]) 2 := ⟨by decide, fun _ _ => by rw [show (S [c]).length = 1 from rfl]; decide, fun _ _ => by rw [show (S [c]).length = 1 from rfl]; decide⟩
theorem mul2 (c : Nat) : Txt.mul (S [c]) 2 = S [c, c] := ext_tl rfl
def sp_noletters (K : PySem.W.Frag) : Sp := fun vs H Q _ => ∃ b cs, ∃ (c : Int) (k : Nat), vs = [.ref b, .int c, .int k] ∧ H b = some (.lst (csV cs)) ∧ cs.Nodup ∧ (∀ c ∈ cs, low c = true) ∧ 2 ≤ cs.length ∧ cs.length ≤ 6 ∧ k < 1000 ∧
  ∀ v d H', Same H H' → Dq H' v d → lettersOk cs.length d = false → Q v H'
theorem ok_law_no_letters (T : Txt K mg) : Z.C0 P w K mg base 2 "_law_no_letters" (sp_noletters K) := by
  refine T.d_law_no_letters.c0 sc_law_no_letters (fun vs H Q E h => ?_) (Z.bd0 fun _ _ _ _ _ _ us hl => match us, hl with | [_, _, _], _ => rfl) (fun f cdv A outer s H vs Q E hr h => ⟨_, (pss_cons (ps_setLc (i := 3) (own := [("_law_one", 7)]) rfl sc_law_no_letters.nd rfl rfl (sw_true rfl rfl rfl (by decide +kernel)) (pi_str pe_str) (blkOk_by (N := ["_law_letters_here", "_law_cell_here", "_law_k", "_law_more", "_law_some", "_law_odd", "_law_place", "_law_one"]) (sc := defScope s_law_no_letters) (by decide +kernel)) (fun _ _ _ _ _ => (pg_name (i := 7) sc_law_no_letters.nd rfl (Or.inl rfl))) (fun _ _ _ _ _ => (pts_one (pt_cmpR (k_notInP K) (pv 7) (pv 0) (by rfl)))) (fun _ _ _ _ _ => (pv 7)))
  (pss_cons (ps_set (i := 4) sc_law_no_letters.nd rfl (Or.inl rfl) (pe_lst (pa_cons pe_non (pa_cons pe_bl (pa_cons (pe_slice (k_sl K) pe_str po_none (po_some (pe_callB (k_len K) rfl T.b_len (by decide +kernel) (pa_cons (pv 0) pa_nil)))) (pa_cons (pe_callTy (k_tuple K) rfl T.b_tuple (by decide +kernel) (pa_cons (pv 0) pa_nil)) (pa_cons (pe_slice (k_sl K) (pv 0) (po_some pe_int) po_none) (pa_cons (pe_op (k_addP K) (pv 0) (pe_lst (pa_cons pe_str pa_nil))) (pa_cons (pe_op (k_addP K) (pv 0) (pe_slice (k_sl K) (pv 3) po_none (po_some pe_int))) pa_nil)))))))))
  (pss_cons (ps_expr (k_bm K PySem.F.plainAttrs_list PySem.F.slot_list_append PySem.F.type_list_append mt_append (pv 4) (pa_cons (pe_op (k_addP K) (pe_slice (k_sl K) (pv 0) po_none (po_some (pe_un un_neg pe_int))) (pe_slice (k_sl K) (pv 0) po_none (po_some pe_int))) pa_nil)))
  (pss_cons (ps_set (i := 5) sc_law_no_letters.nd rfl (Or.inl rfl) (pe_ix (k_ix K) (pe_lst (pa_cons pe_str (pa_cons pe_str (pa_cons pe_str (pa_cons pe_str (pa_cons pe_non (pa_cons pe_int (pa_cons (pe_lst (pa_cons pe_str pa_nil)) (pa_cons pe_str pa_nil))))))))) (pe_ix (k_ix K) (pe_c0 (ok_law_draws T) hr (by decide) rfl (pa_cons (pv 1) (pa_cons (pv 2) (pa_cons (pe_lst (pa_cons pe_int pa_nil)) pa_nil)))) pe_int (fun _ _ => rfl)) (fun _ _ => rfl)))
  (pss_cons (ps_set (i := 6) sc_law_no_letters.nd rfl (Or.inl rfl) (pe_op op_modP (pe_ix (k_ix K) (pe_c0 (ok_law_draws T) hr (by decide) rfl (pa_cons (pv 1) (pa_cons (pv 2) (pa_cons (pe_lst (pa_cons pe_int (pa_cons pe_int pa_nil))) pa_nil)))) pe_int (fun _ _ => rfl)) (pe_callB (k_len K) rfl T.b_len (by decide +kernel) (pa_cons (pv 0) pa_nil))))
  (pss_cons (ps_set (i := 4) sc_law_no_letters.nd rfl (Or.inl rfl) (pe_op (k_addP K) (pv 4) (pe_lst (pa_cons (pe_op (k_addP K) (pe_op (k_addP K) (pe_slice (k_sl K) (pv 0) po_none (po_some (pv 6))) (pe_lst (pa_cons (pv 5) pa_nil))) (pe_slice (k_sl K) (pv 0) (po_some (pe_op (k_addP K) (pv 6) pe_int)) po_none)) (pa_cons (pe_lst pa_nil) (pa_cons pe_dnewK (pa_cons pe_int (pa_cons (pe_op (k_addP K) (pe_slice (k_sl K) (pv 0) po_none (po_some (pe_un un_neg pe_int))) (pe_lst (pa_cons (pe_op op_mulS (pe_ix (k_ix K) (pv 0) (pe_un un_neg pe_int) (fun _ _ => rfl)) pe_int) pa_nil))) pa_nil))))))))
  (pss_one (ps_ret (pe_ix (k_ix K) (pv 4) (pe_op op_modP (pe_ix (k_ix K) (pe_c0 (ok_law_draws T) hr (by decide) rfl (pa_cons (pv 1) (pa_cons (pv 2) (pa_cons (pe_lst (pa_cons pe_int (pa_cons pe_int (pa_cons pe_int pa_nil)))) pa_nil)))) pe_int (fun _ _ => rfl)) (pe_callB (k_len K) rfl T.b_len (by decide +kernel) (pa_cons (pv 4) pa_nil))) (fun _ _ => rfl)))))))))), ?_⟩)
  · obtain ⟨b, cs, c, k, rfl, _⟩ := h
    rfl
  · obtain ⟨b, cs, c, k, rfl, hb, hnd, hlow, h2, h6, hk, q⟩ := h
    rw [st_law_no_letters]
    walk_at "st"
    have hlv := len_csV cs
    obtain ⟨lst, hlst⟩ : ∃ x, cs.getLast? = some x := by
      cases e : cs.getLast? with
      | none => rw [List.getLast?_eq_none_iff] at e; rw [e] at h2; exact absurd h2 (by decide)
      | some x => exact ⟨x, rfl⟩
    have hneg : atI (csV cs) (-1) = some (.str (S [lst])) := at_neg1 (by
      unfold csV
      rw [List.getLast?_map, hlst]
      rfl)
    have cut1 : cutV (csV cs) (some 1) none = csV (cs.drop 1) := csFrom cs 1
    have cutT1 : cutV (csV cs) none (some 1) = csV (cs.take 1) := csTo cs 1
    have cutN := csNeg cs
    walk_at "rd"
    refine lcW walk_str (fun i acc _ => acc = csV (((Str.ofString "abcdefghijklmnopqrstuvwxyz").cps.toList.take i).filter fun c => !decide (c ∈ cs))) rfl (fun _ _ => trivial) (fun _ _ => rfl) ?_ ?_
    · rintro i x acc D2 _ G2 hi hD2 s2 h2' hl2 rfl ⟨rfl, c, hc, rfl⟩
      have hc2 : (Str.ofString "abcdefghijklmnopqrstuvwxyz").cps.toList[i]? = some c := by simpa using hc
      have hi2 := (List.getElem?_eq_some_iff.mp hc2).1
      have hi3 : i < 1000 := Nat.lt_of_lt_of_le hi2 (by decide +kernel)
      have hb2 := s2 _ _ hb
      have tk : (Str.ofString "abcdefghijklmnopqrstuvwxyz").cps.toList.take (i + 1) = (Str.ofString "abcdefghijklmnopqrstuvwxyz").cps.toList.take i ++ [c] := by
        rw [List.take_add_one, hc2]
        rfl
      walk_at "rd"
      refine r_notInL (xs := csV cs) (sqL hb2) ?_ rfl (flat_cs cs)
      rw [inV_cs]
      walk_at "rd"
      refine r_nite (fun h => ?_) (fun h => ?_)
      · walk_at "rd"
        refine lc_put (by omega) hD2 s2 h2' hl2 fun H5 _ _ => ?_
        rw [tk, List.filter_append, List.filter_cons_of_pos (by simp [h])]
        unfold csV
        rw [List.map_append]
        rfl
      · refine lc_skip s2 h2' hl2 ?_
        rw [tk, List.filter_append, List.filter_cons_of_neg (by simp [h]), List.filter_nil, List.append_nil]
    rintro acc ml G0 hml g0 m0 rfl
    have en : (Str.ofString "abcdefghijklmnopqrstuvwxyz").cps.size = (Str.ofString "abcdefghijklmnopqrstuvwxyz").cps.toList.length := rfl
    rw [en, List.take_length] at m0
    obtain ⟨mh, mt, hms⟩ : ∃ mh mt, ((Str.ofString "abcdefghijklmnopqrstuvwxyz").cps.toList.filter fun c => !decide (c ∈ cs)) = mh :: mt := by
      cases e : ((Str.ofString "abcdefghijklmnopqrstuvwxyz").cps.toList.filter fun c => !decide (c ∈ cs)) with
      | nil => exact absurd e (abc_more h6)
      | cons a l => exact ⟨a, l, rfl⟩
    rw [hms] at m0
    have cutM : cutV (csV (mh :: mt)) none (some 1) = csV [mh] := csTo (mh :: mt) 1
    have hb0 := g0 _ _ hb
    have dl : (csV (cs.drop 1)).length ≤ 6 := by
      rw [len_csV, List.length_drop]
      omega
    have nl : (csV cs.dropLast).length ≤ 6 := by
      rw [len_csV, List.length_dropLast]
      omega
    have tl1 : (csV (cs.take 1)).length ≤ 6 := by
      rw [len_csV, List.length_take]
      omega
    have ml1 : (csV [mh]).length = 1 := rfl
    walk_at "rd"
    refine r_tupL (p := b) (xs := csV cs) (sqL hb0) (fun p3 G1 n1 s1 f1 => ?_)
    walk_at "rd"
    intro p4 G2 n2 s2 f2
    rw [cut1] at f2
    walk_at "rd"
    intro x1 G3 n3 s3 f3
    walk_at "rd"
    intro p5 G4 n4 s4 f4
    walk_at "rd"
    intro x2 G5 n5 s5 f5
    rw [cutM] at f5
    walk_at "rd"
    intro p6 G6 n6 s6 f6
    walk_at "rd"
    intro l G7 n7 s7 f7
    walk_at "rd"
    intro x3 G8 n8 s8 f8
    rw [cutN] at f8
    walk_at "rd"
    intro x4 G9 n9 s9 f9
    rw [cutT1] at f9
    walk_at "rd"
    intro p7 G10 n10 s10 f10
    walk_at "rd"
    intro G11 b11 f11
    have k3 : G11 p3 = some (.tup (csV cs)) := by walk_at "lk"
    have k4 : G11 p4 = some (.lst (csV (cs.drop 1))) := by walk_at "lk"
    have k5 : G11 p5 = some (.lst (csV cs ++ [.str (Str.ofString "!")])) := by walk_at "lk"
    have k6 : G11 p6 = some (.lst (csV cs ++ csV [mh])) := by walk_at "lk"
    have k7 : G11 p7 = some (.lst (csV cs.dropLast ++ csV (cs.take 1))) := by walk_at "lk"
    have hb11 : G11 b = some (.lst (csV cs)) := by walk_at "lk"
    have e11 : Same H G11 := by walk_at "sm"
    have cL : (cutS (Str.ofString "abcdef") none (some ((cs.length : Nat) : Int))).length ≤ 1000000 := Nat.le_trans (cutS_length _ _ _) (by decide +kernel)
    rw [hlv] at f11
    have dq8 : DqAll G11 [.non, .bl true, .str (cutS (Str.ofString "abcdef") none (some ((cs.length : Nat) : Int))), .ref p3, .ref p4, .ref p5, .ref p6, .ref p7] [.none, .bool true, .str (cutS (Str.ofString "abcdef") none (some ((cs.length : Nat) : Int))), .tuple (dsC cs), .list (dsC (cs.drop 1)), .list (dsC cs ++ [.str (Str.ofString "!")]), .list (dsC cs ++ dsC [mh]), .list (dsC cs.dropLast ++ dsC (cs.take 1))] :=
      .cons .non (.cons (.bl _) (.cons (.str _ cL) (.cons (.tup k3 (dqC cs) (by omega)) (.cons (.lst k4 (dqC _) (by omega)) (.cons (.lst k5 (DqAll.app (dqC cs) (.cons (.str _ (by decide +kernel)) .nil)) (by rw [List.length_append, List.length_singleton]; omega))
        (.cons (.lst k6 (DqAll.app (dqC cs) (dqC [mh])) (by rw [List.length_append]; omega)) (.cons (.lst k7 (DqAll.app (dqC _) (dqC _)) (by rw [List.length_append]; omega)) .nil)))))))
    have bd8 : ∀ d ∈ [.none, .bool true, .str (cutS (Str.ofString "abcdef") none (some ((cs.length : Nat) : Int))), .tuple (dsC cs), .list (dsC (cs.drop 1)), .list (dsC cs ++ [.str (Str.ofString "!")]), .list (dsC cs ++ dsC [mh]), .list (dsC cs.dropLast ++ dsC (cs.take 1))], lettersOk cs.length d = false := by
      intro d hd
      simp only [List.mem_cons, List.not_mem_nil, or_false] at hd
      rcases hd with rfl | rfl | rfl | rfl | rfl | rfl | rfl | rfl
      · rfl
      · rfl
      · rfl
      · rfl
      · exact lk_len (by unfold dsC; rw [List.length_map, List.length_drop]; omega)
      · exact lk_len (by unfold dsC; rw [List.length_append, List.length_map, List.length_singleton]; omega)
      · exact lk_len (by unfold dsC; rw [List.length_append, List.length_map, List.length_map, List.length_singleton]; omega)
      · have e : dsC cs.dropLast ++ dsC (cs.take 1) = dsC (cs.dropLast ++ cs.take 1) := by
          unfold dsC
          rw [List.map_append]
        rw [e]
        refine lk_dup fun hn => ?_
        match cs, h2 with
        | [_], h2 => simp at h2
        | x :: y :: r, _ =>
          rw [List.nodup_append] at hn
          exact hn.2.2 x List.mem_cons_self x List.mem_cons_self rfl
    have f11' : G11 l = some (.lst [.non, .bl true, .str (cutS (Str.ofString "abcdef") none (some ((cs.length : Nat) : Int))), .ref p3, .ref p4, .ref p5, .ref p6, .ref p7]) := f11
    revert dq8 bd8 f11'
    generalize hx0 : [V.non, .bl true, .str (cutS (Str.ofString "abcdef") none (some ((cs.length : Nat) : Int))), .ref p3, .ref p4, .ref p5, .ref p6, .ref p7] = xs0
    generalize [PyData.none, .bool true, .str (cutS (Str.ofString "abcdef") none (some ((cs.length : Nat) : Int))), .tuple (dsC cs), .list (dsC (cs.drop 1)), .list (dsC cs ++ [.str (Str.ofString "!")]), .list (dsC cs ++ dsC [mh]), .list (dsC cs.dropLast ++ dsC (cs.take 1))] = ds0
    intro dq8 bd8 f11'
    have hx8 : xs0.length = 8 := by rw [← hx0]; rfl
    clear hx0 k3 k4 k5 k6 k7 f1 f2 f3 f4 f5 f6 f7 f8 f9 f10 f11 n1 n2 n3 n4 n5 n6 n7 n8 n9 n10 s1 s2 s3 s4 s5 s6 s7 s8 s9 s10 b11 g0 hb0 m0 hml
    have e11' := e11
    clear e11
    walk_at "rd"
    intro y1 A1 m1 t1 r1
    walk_at "rd"
    intro y2 A2 m2 t2 r2
    walk_at "rd"
    intro y3 A3 m3 t3 r3
    walk_at "rd"
    refine ⟨c, k, y3, [8], rfl, hk, by decide, r3, by decide, fun rs o1 A4 hd ho1 t4 r4 => ?_⟩
    obtain ⟨hr1, hr2⟩ := hd
    have hr1' : rs.length = 1 := hr1
    have b0 : rs[0] < 8 := hr2 0 (by omega) (by decide)
    have a0 : atI (vsN rs) 0 = some (.int (rs[0] : Nat)) := at_vs (n := 0) rfl (by omega)
    clear hr2
    have k1 : A4 y1 = some (.lst [.str (Str.ofString "a")]) := by walk_at "lk"
    obtain ⟨ov, hov, hom⟩ := at_in (xs := [V.str (Str.ofString "A"), V.str (Str.ofString ""), V.str (Str.ofString "ab"), V.str (Str.ofString "1"), V.non, V.int 0, V.ref y1, V.str (Str.ofString "\n")]) (z := ((rs[0] : Nat) : Int)) (by omega) (by simp; omega)
    obtain ⟨od, hod, hol⟩ : ∃ d, Dq A4 ov d ∧ isLetter d = false := by
      simp only [List.mem_cons, List.not_mem_nil, or_false] at hom
      rcases hom with rfl | rfl | rfl | rfl | rfl | rfl | rfl | rfl
      · exact ⟨.str (Str.ofString "A"), .str _ (by decide +kernel), by decide +kernel⟩
      · exact ⟨.str (Str.ofString ""), .str _ (by decide +kernel), by decide +kernel⟩
      · exact ⟨.str (Str.ofString "ab"), .str _ (by decide +kernel), by decide +kernel⟩
      · exact ⟨.str (Str.ofString "1"), .str _ (by decide +kernel), by decide +kernel⟩
      · exact ⟨.none, .non, rfl⟩
      · exact ⟨.int 0, .int _, rfl⟩
      · exact ⟨.list [.str (Str.ofString "a")], .lst k1 (.cons (.str _ (by decide +kernel)) .nil) (by decide), rfl⟩
      · exact ⟨.str (Str.ofString "\n"), .str _ (by decide +kernel), by decide +kernel⟩
    walk_at "rd"
    intro y5 A5 m5 t5 r5
    walk_at "rd"
    refine ⟨c, k, y5, [8, 6], rfl, hk, by decide, r5, by decide, fun rs2 o2 A6 hd ho2 t6 r6 => ?_⟩
    obtain ⟨hr1, hr2⟩ := hd
    have hr1'' : rs2.length = 2 := hr1
    have a1 : atI (vsN rs2) 1 = some (.int (rs2[1] : Nat)) := at_vs (n := 1) rfl (by omega)
    clear hr2
    have e6 : Same G11 A6 := t1.trans (t2.trans (t3.trans (t4.trans (t5.trans t6))))
    have hb6 := e6 _ _ hb11
    have l6 := e6 _ _ f11'
    have hod6 := hod.up (t5.trans t6)
    clear t1 t2 t3 t4 t5 t6 r1 r2 r3 r4 r5 m1 m2 m3 m5 ho1 ho2 k1 hod
    walk_at "rd"
    rw [hlv, show ((rs2[1] : Nat) : Int) % ((cs.length : Nat) : Int) = ((rs2[1] % cs.length : Nat) : Int) by rw [Int.natCast_emod]]
    obtain ⟨p, hp⟩ : ∃ p, p = rs2[1] % cs.length := ⟨_, rfl⟩
    have hpl : p < cs.length := by
      rw [hp]
      exact Nat.mod_lt _ (by omega)
    rw [← hp]
    have tp : (csV (cs.take p)).length ≤ 6 := by
      rw [len_csV, List.length_take]
      omega
    have dp1 : (csV (cs.drop (p + 1))).length ≤ 6 := by
      rw [len_csV, List.length_drop]
      omega
    have hcp := csTo cs p
    walk_at "rd"
    intro z1 B1 m1 t1 r1
    rw [hcp] at r1
    walk_at "rd"
    intro z2 B2 m2 t2 r2
    walk_at "rd"
    intro z3 B3 m3 t3 r3
    walk_at "rd"
    intro z4 B4 m4 t4 r4
    rw [show ((p : Nat) : Int) + 1 = ((p + 1 : Nat) : Int) by omega, csFrom] at r4
    walk_at "rd"
    have hadd : (csV (cs.take p) ++ [ov]).length ≤ 7 := by
      rw [List.length_append, List.length_singleton]
      omega
    intro z5 B5 m5 t5 r5
    walk_at "rd"
    intro z6 B6 m6 t6 r6
    walk_at "rd"
    intro z7 B7 m7 t7 r7
    walk_at "rd"
    intro z8 B8 m8 t8 r8
    rw [cutN] at r8
    walk_at "rd"
    refine r_mulS ?_ (mulOk2 lst)
    rw [mul2]
    walk_at "rd"
    intro z9 B9 m9 t9 r9
    walk_at "rd"
    intro z10 B10 m10 t10 r10
    walk_at "rd"
    intro z11 B11 m11 t11 r11
    walk_at "rd"
    intro z12 B12 m12 t12 r12
    walk_at "rd"
    intro z13 B13 m13 t13 r13
    walk_at "rd"
    refine ⟨c, k, z13, [8, 6, 1009], rfl, hk, by decide, r13, by decide, fun rs3 o3 B14 hd ho3 t14 r14 => ?_⟩
    obtain ⟨hr1, hr2⟩ := hd
    have hr3 : rs3.length = 3 := hr1
    have a2 : atI (vsN rs3) 2 = some (.int (rs3[2] : Nat)) := at_vs (n := 2) rfl (by omega)
    clear hr2
    have j5 : B14 z5 = some (.lst (csV (cs.take p) ++ [ov] ++ csV (cs.drop (p + 1)))) := by walk_at "lk"
    have j6 : B14 z6 = some (.lst []) := by walk_at "lk"
    have j7 : B14 z7 = some (.dK []) := by walk_at "lk"
    have j10 : B14 z10 = some (.lst (csV cs.dropLast ++ [.str (S [lst, lst])])) := by walk_at "lk"
    have j12 : B14 z12 = some (.lst (xs0 ++ [.ref z5, .ref z6, .ref z7, .int 5, .ref z10])) := by walk_at "lk"
    have eB : Same A6 B14 := t1.trans (t2.trans (t3.trans (t4.trans (t5.trans (t6.trans (t7.trans (t8.trans (t9.trans (t10.trans (t11.trans (t12.trans (t13.trans t14))))))))))))
    have dqA : DqAll B14 (xs0 ++ [.ref z5, .ref z6, .ref z7, .int 5, .ref z10]) (ds0 ++ [.list (dsC (cs.take p) ++ [od] ++ dsC (cs.drop (p + 1))), .list [], .dict [], .int 5, .list (dsC cs.dropLast ++ [.str (S [lst, lst])])]) :=
      DqAll.app (dq8.up (e6.trans eB)) (.cons (.lst j5 (DqAll.app (DqAll.app (dqC _) (.cons (hod6.up eB) .nil)) (dqC _)) (by rw [List.length_append]; omega)) (.cons (.lst j6 .nil (by decide)) (.cons (.dic j7) (.cons (.int _) (.cons (.lst j10 (DqAll.app (dqC _) (.cons (.str _ (by rw [M.S_len]; show 2 ≤ 1000000; decide)) .nil)) (by rw [List.length_append, List.length_singleton]; omega)) .nil)))))
    have bdA : ∀ d ∈ (ds0 ++ [.list (dsC (cs.take p) ++ [od] ++ dsC (cs.drop (p + 1))), .list [], .dict [], .int 5, .list (dsC cs.dropLast ++ [.str (S [lst, lst])])]), lettersOk cs.length d = false := by
      intro d hd
      rcases List.mem_append.mp hd with hd | hd
      · exact bd8 d hd
      simp only [List.mem_cons, List.not_mem_nil, or_false] at hd
      rcases hd with rfl | rfl | rfl | rfl | rfl
      · exact lk_odd (d := od) (by simp) hol
      · exact lk_len (by show 0 ≠ cs.length; omega)
      · rfl
      · rfl
      · refine lk_odd (d := .str (S [lst, lst])) (by simp) ?_
        show (decide ((tl (S [lst, lst])).length = 1) && (tl (S [lst, lst])).all low) = false
        rw [show tl (S [lst, lst]) = [lst, lst] from rfl]
        rfl
    have eA : Same H B14 := e11'.trans (e6.trans eB)
    have hAl : 0 < (xs0 ++ [V.ref z5, V.ref z6, V.ref z7, V.int 5, V.ref z10]).length := by
      rw [List.length_append]
      omega
    revert j12 dqA
    generalize (xs0 ++ [V.ref z5, V.ref z6, V.ref z7, V.int 5, V.ref z10]) = ys at hAl ⊢
    intro j12 dqA
    clear eB j5 j6 j7 j10 t1 t2 t3 t4 t5 t6 t7 t8 t9 t10 t11 t12 t13 t14 r1 r2 r3 r4 r5 r6 r7 r8 r9 r10 r11 r12 r13 m1 m2 m3 m4 m5 m6 m7 m8 m9 m10 m11 m12 m13 e6 e11'
    walk_at "rd"
    obtain ⟨v, d, hv, hq, hd⟩ := dqA.at (z := ((rs3[2] : Nat) : Int) % ((ys.length : Nat) : Int)) (Int.emod_nonneg _ (by omega)) (Int.emod_lt_of_pos _ (by omega))
    walk_at "rd"
    exact q v d B14 eA hq (bdA d hd)
end
end My

namespace My
open PySem PySem.Spec PyProof.Rows L2 Z M SX TL
section
variable {P : Program} {w : World} {K : PySem.W.Frag} {mg : Str → Option Value} {base : Heap}
theorem trC_mem {as cs : List Nat} (hl : as.length = cs.length) {c : Nat} (h : c ∈ as) : trC as cs c ∈ cs := by
  obtain ⟨q1, _⟩ := idx_at h
  unfold trC
  exact getD_mem (by omega)
theorem trS_low {as cs : List Nat} (hl : as.length = cs.length) (hw : ∀ c ∈ cs, low c = true) {z : Str} (h : ∀ c ∈ tl z, c ∈ as) : PyData.strOk (trS as cs z) = true := by
  refine strOk_low ?_
  show ((tl z).map (trC as cs)).all low = true
  rw [List.all_map]
  exact List.all_eq_true.mpr fun c hc => hw _ (trC_mem hl (h c hc))
theorem lt_low {t : Tg} (h : TgOk t) : ∀ c ∈ ltT t, low c = true := fun c hc => by
  obtain ⟨s, hs, rfl⟩ := List.mem_map.mp hc
  exact (h.sg s hs).c
theorem chars_ok {t : Tg} (h : TgOk t) {z : Str} (hz : Chars t z) : PyData.strOk z = true := strOk_low (List.all_eq_true.mpr fun c hc => lt_low h c (hz.1 c hc))
theorem lt_len (t : Tg) : (ltT t).length = t.sg.length := List.length_map _
theorem TgL.tr {t : Tg} {cs : List Nat} (h : TgOk t) (hl : LtOk t cs) : TgL (trT t cs) where
  s := fun s hs => by
    obtain ⟨u, hu, rfl⟩ := List.mem_map.mp hs
    exact hl.w _ (trC_mem ((lt_len t).trans hl.n.symm) (List.mem_map.mpr ⟨u, hu, rfl⟩))
  f := fun z hz => by
    obtain ⟨u, hu, rfl⟩ := List.mem_map.mp hz
    exact trS_low ((lt_len t).trans hl.n.symm) hl.w (fi_chars h u hu).1
  p := fun z hz => by
    obtain ⟨u, hu, rfl⟩ := List.mem_map.mp hz
    exact trS_low ((lt_len t).trans hl.n.symm) hl.w (pa_chars h u hu).1
theorem strs_shaped {l : List Str} (h : ∀ z ∈ l, PyData.strOk z = true) : SeqAt.shaped (strsD l) = true := by
  obtain ⟨h1, h2⟩ := strs_lay l h
  unfold SeqAt.shaped strsD
  rw [PyData.canLay0, h1, PyData.depth, h2]
  rfl
theorem strs_eqv {l : List Str} (h : ∀ z ∈ l, PyData.strOk z = true) : PyData.eqv (strsD l) (strsD l) = true := SeqAt.eqv_refl _ (shaped_lay (strs_shaped h))
theorem strs_dp {K : PySem.W.Frag} {H : Hp} {p : Addr} {l : List Str} (h : H p = some (.lst (l.map V.str))) : Dp K H (.ref p) (strsD l) := by
  refine .lst (sqL h) ?_
  clear h
  induction l with
  | nil => exact .nil
  | cons z l ih => exact .cons (.str z) ih
theorem csV_strs (cs : List Nat) : csV cs = (cs.map fun c => S [c]).map V.str := by
  unfold csV
  rw [List.map_map]
  rfl
theorem cs_strOk {cs : List Nat} (h : ∀ c ∈ cs, low c = true) : ∀ z ∈ cs.map (fun c => S [c]), PyData.strOk z = true := fun z hz => by
  obtain ⟨c, hc, rfl⟩ := List.mem_map.mp hz
  exact low_str (h c hc)
theorem TgAt.dp {K : PySem.W.Frag} {H : Hp} {v : V} {t : Tg} {T a1 a2 a3 : Addr} {xs : List V} (h : TgAt H v t T a1 a2 a3 xs) (l : TgL t) : Dp K H v (tgD t) := Dq.dp h.dq (tg_lay l).1
def sp_bookr (K : PySem.W.Frag) : Sp := fun vs H Q _ => ∃ x b o z t T a1 a2 a3 xs cs, ∃ zs : List Str, vs = [x, .ref b, .ref o, .str z] ∧ TgOk t ∧ TgAt H x t T a1 a2 a3 xs ∧ H b = some (.lst (csV cs)) ∧ LtOk t cs ∧ H o = some (.lst (zs.map V.str)) ∧ (∀ z ∈ zs, Chars t z) ∧ zs.length ≤ 100 ∧ Chars t z ∧ ∀ H', Same H H' → Q (.bl true) H'
theorem ok_law_book_right (T : Txt K mg) : Z.C0 P w K mg base 8 "_law_book_right" (sp_bookr K) := by
  refine T.d_law_book_right.c0 sc_law_book_right (fun vs H Q E h => ?_) (Z.bd0 fun _ _ _ _ _ _ us hl => match us, hl with | [_, _, _, _], _ => rfl) (fun f cdv A outer s H vs Q E hr h => ⟨_, (pss_cons (ps_set (i := 4) sc_law_book_right.nd rfl (Or.inl rfl) (pe_callTy (k_list K) rfl T.b_list (by decide +kernel) (pa_cons (pv 1) pa_nil)))
  (pss_cons (ps_set (i := 5) sc_law_book_right.nd rfl (Or.inl rfl) (pe_callTy (k_list K) rfl T.b_list (by decide +kernel) (pa_cons (pv 2) pa_nil)))
  (pss_cons (ps_setLc (i := 6) (own := [("_law_one", 9)]) rfl sc_law_book_right.nd rfl rfl (sw_true rfl rfl rfl (by decide +kernel)) (k_iL K (pv 2)) (blkOk_by (N := ["_law_tongue_here", "_law_letters_here", "_law_book", "_law_text", "_law_handed", "_law_words_here", "_law_due", "_law_called_so", "_law_found", "_law_one"]) (sc := defScope s_law_book_right) (by decide +kernel)) (fun _ _ _ _ _ => (pg_name (i := 9) sc_law_book_right.nd rfl (Or.inl rfl))) (fun _ _ _ _ _ => pts_nil) (fun _ _ _ _ _ => (pe_c0 (ok_law_called T) hr (by decide) rfl (pa_cons (pv 0) (pa_cons (pv 1) (pa_cons (pv 9) pa_nil))))))
  (pss_cons (ps_set (i := 7) sc_law_book_right.nd rfl (Or.inl rfl) (pe_ce (ok_turned_book T) hr (by decide) rfl takes0 (pa_cons (pv 0) (pa_cons (pv 4) (pa_cons (pv 5) pa_nil)))))
  (pss_cons (ps_if (PW.pt (pw_or (pt_cmpR (k_neP K hr.units) (pv 7) (pv 6) (nomark _)) (pw_or1 (pt_cmpR (k_neP K hr.units) (pv 5) (pv 2) (nomark _)))))
  (pss_one (ps_ret pe_bl)) pss_nil)
  (pss_cons (ps_expr (k_bm K PySem.F.plainAttrs_list PySem.F.slot_list_append PySem.F.type_list_append mt_append (pv 7) (pa_cons pe_str pa_nil)))
  (pss_cons (ps_if (pt_cmpR (k_neP K hr.units) (pe_ce (ok_turned_book T) hr (by decide) rfl takes0 (pa_cons (pv 0) (pa_cons (pv 4) (pa_cons (pv 5) pa_nil)))) (pv 6) (nomark _))
  (pss_one (ps_ret pe_bl)) pss_nil)
  (pss_cons (ps_set (i := 8) sc_law_book_right.nd rfl (Or.inl rfl) (pe_ce (ok_turned_text T) hr (by decide) rfl takes0 (pa_cons (pv 0) (pa_cons (pv 4) (pa_cons (pv 3) pa_nil)))))
  (pss_one (ps_ret (pe_and (pe_cmpR (k_eqP K hr.units) (pv 4) (pv 1) (nomark _)) (pe_one (pe_cmpR (k_eqP K hr.units) (pv 8) (pe_c0 (ok_law_called T) hr (by decide) rfl (pa_cons (pv 0) (pa_cons (pv 1) (pa_cons (pv 3) pa_nil)))) (nomark _)))))))))))))), ?_⟩)
  · obtain ⟨x, b, o, z, t, T, a1, a2, a3, xs, cs, zs, rfl, _⟩ := h
    rfl
  · obtain ⟨x, b, o, z, t, T1, a1, a2, a3, xs, cs, zs, rfl, ht, hx, hb, hl, ho, hz, hzl, hzt, q⟩ := h
    rw [st_law_book_right]
    walk_at "st"
    have hn6 := ht.n2
    walk_at "rd"
    intro hd H1 n1 e1 f1
    have ho1 := e1 _ _ ho
    walk_at "rd"
    intro wd H2 n2 e2 f2
    have e12 := e1.trans e2
    have hx2 := hx.up e12
    have hb2 := e12 _ _ hb
    have ho2 := e12 _ _ ho
    have hd2 := e2 _ _ f1
    walk_at "rd"
    refine lcW (walk_list (xs := zs.map V.str)) (fun i acc _ => acc = ((zs.take i).map (trS (ltT t) cs)).map V.str) rfl (fun H' e' => sqL (e' _ _ ho2)) (fun _ _ => rfl) ?_ ?_
    · rintro i x1 acc Dl G0 G1 hi hD g3 g4 hl3 rfl y
      obtain ⟨rfl, hx1⟩ := y
      have hi2 : i < zs.length := by rw [List.length_map] at hi; exact hi
      obtain rfl : V.str zs[i] = x1 := by
        have hx1 : (zs.map V.str)[i]? = some x1 := hx1
        rw [List.getElem?_map, List.getElem?_eq_getElem hi2] at hx1
        exact Option.some.inj hx1
      obtain ⟨q1, q2⟩ := hz _ (List.getElem_mem hi2)
      walk_at "rd"
      refine ⟨x, b, zs[i], t, T1, a1, a2, a3, xs, cs, rfl, hx2.up g3, ht.n2, ht.nd, g3 _ _ hb2, hl.n, q1, q2, fun G2 s2 => ?_⟩
      refine lc_put (by omega) hD (g3.trans s2) (s2 _ _ g4) hl3 fun H5 _ _ => ?_
      rw [← List.take_append_getElem hi2, List.map_append, List.map_append]
      rfl
    rintro acc du H3 hdu e3 f3 rfl
    rw [List.length_map, List.take_length] at f3
    have sD : ∀ u ∈ zs.map (trS (ltT t) cs), PyData.strOk u = true := fun u hu => by
      obtain ⟨v, hv, rfl⟩ := List.mem_map.mp hu
      exact trS_low ((lt_len t).trans hl.n.symm) hl.w (hz v hv).1
    have sZ : ∀ u ∈ zs, PyData.strOk u = true := fun u hu => chars_ok ht (hz u hu)
    have hx3 := hx2.up e3
    have f2' := e3 _ _ f2
    have hd3 := e3 _ _ hd2
    walk_at "rd"
    refine ⟨x, .ref hd, .ref wd, rfl, .inr ⟨t, T1, a1, a2, a3, xs, hd, cs, wd, zs, ht, hx3, rfl, hd3, hl, rfl, f2', hz, by omega, fun l4 H4 n4 e4 f4 => ?_⟩⟩
    have du4 := e4 _ _ f3
    have wd4 := e4 _ _ f2'
    have o4 := e4 _ _ (e3 _ _ ho2)
    walk_at "rd"
    refine r_neD (strs_dp f4) (strs_dp du4) ?_ (strs_shaped sD) (strs_shaped sD)
    rw [strs_eqv sD]
    walk_at "rd"
    refine r_neD (strs_dp wd4) (strs_dp o4) ?_ (strs_shaped sZ) (strs_shaped sZ)
    rw [strs_eqv sZ]
    have f4l : ((zs.map (trS (ltT t) cs)).map V.str).length ≤ 100 := by
      rw [List.length_map, List.length_map]
      exact hzl
    walk_at "rd"
    intro H5 b5 f5
    have e35 : Same H3 H5 := Same.but b5 n4 e4
    have hx5 := hx3.up e35
    have f3' := e35 _ _ f3
    have wd5 := e35 _ _ f2'
    have hd5 := e35 _ _ hd3
    have hb5 := e35 _ _ (e3 _ _ hb2)
    clear b5 e4 wd4 o4 du4 f4 f5
    walk_at "rd"
    refine ⟨x, .ref hd, .ref wd, rfl, .inr ⟨t, T1, a1, a2, a3, xs, hd, cs, wd, zs, ht, hx5, rfl, hd5, hl, rfl, wd5, hz, by omega, fun l6 H6 n6 e6 f6 => ?_⟩⟩
    have du6 := e6 _ _ f3'
    walk_at "rd"
    refine r_neD (strs_dp f6) (strs_dp du6) ?_ (strs_shaped sD) (strs_shaped sD)
    rw [strs_eqv sD]
    walk_at "rd"
    refine ⟨x, .ref hd, .str z, rfl, .inr ⟨t, T1, a1, a2, a3, xs, hd, cs, z, ht, hx5.up e6, rfl, e6 _ _ hd5, hl, rfl, hzt, fun H7 e7 => ?_⟩⟩
    have hd7 := e7 _ _ (e6 _ _ hd5)
    have hb7 := e7 _ _ (e6 _ _ hb5)
    have hd7' := hd7
    have hb7' := hb7
    rw [csV_strs] at hd7' hb7'
    walk_at "rd"
    refine r_eqD (strs_dp hd7') (strs_dp hb7') ?_ (strs_shaped (cs_strOk hl.w)) (strs_shaped (cs_strOk hl.w))
    rw [strs_eqv (cs_strOk hl.w)]
    walk_at "rd"
    refine ⟨x, b, z, t, T1, a1, a2, a3, xs, cs, rfl, hx5.up (e6.trans e7), ht.n2, ht.nd, hb7, hl.n, hzt.1, hzt.2, fun H8 e8 => ?_⟩
    walk_at "rd"
    rw [decide_eq_true rfl]
    exact q H8 (e12.trans (e3.trans (e35.trans (e6.trans (e7.trans e8)))))
end
end My

namespace My
open PySem PySem.Spec PyProof.Rows L2 Z M SX TL
section
variable {P : Program} {w : World} {K : PySem.W.Frag} {mg : Str → Option Value} {base : Heap}
theorem part_scal {d : PyData} {v : V} (h : tongueErr d = some v) : v = .non ∨ ∃ z, v = .str z := by
  unfold tongueErr at h
  split at h
  · split at h
    · cases h; exact .inr ⟨_, rfl⟩
    · split at h
      · cases h; exact .inr ⟨_, rfl⟩
      · split at h
        · cases h; exact .inr ⟨_, rfl⟩
        · split at h
          · cases h; exact .inr ⟨_, rfl⟩
          · cases h
  · cases h; exact .inl rfl
def sp_law (K : PySem.W.Frag) : Sp := fun vs H Q _ => ∃ (a : Addr) (ns : List Int), vs = [.ref a] ∧ SqL K H a (ns.map V.int) ∧ ns.length ≤ 63 ∧ ∀ H', Q (.bl true) H'
theorem ok_law (T : Txt K mg) {fa : Addr} (hmg : mg "law" = some (.ref fa)) : ∃ fd : FuncData, (∀ (s : Shared) (u : Value), BindsTo s fd ⟨[u], []⟩ [("_law_script", u)]) ∧ ∀ base : Heap, FnOk P w K mg base CX0 9 fa fd ["_law_script"] (sp_law K) := by
  refine T.d_law.law hmg sc_law (fun vs H Q E h => ?_) (fun _ _ _ _ _ _ _ => rfl) (fun base f cdv A outer s H vs Q E hr h => ⟨_, (pss_cons (ps_set (i := 1) sc_law.nd rfl (Or.inr rfl) (pe_c0 (ok_law_tongue T) hr (by decide) rfl (pa_cons (pv 0) (pa_cons pe_int (pa_cons pe_int pa_nil)))))
  (pss_cons (ps_set (i := 2) sc_law.nd rfl (Or.inl rfl) (pe_c0 (ok_law_copy T) hr (by decide) rfl (pa_cons (pv 1) pa_nil)))
  (pss_cons (ps_for PassesOwn.never rfl (k_iE K (by rfl) T.b_enumerate (pa_cons (pe_op (k_addP K) (pe_lst (pa_cons pe_int pa_nil)) (pe_slice (k_sl K) (pv 0) (po_some pe_int) (po_some pe_int))) pa_nil)) (k_tup (n := 2) K rfl (pgs_cons (pg_name (i := 3) sc_law.nd rfl (Or.inr rfl)) (pgs_cons (pg_name (i := 4) sc_law.nd rfl (Or.inr rfl)) pgs_nil)))
  (pss_cons (ps_set (i := 5) sc_law.nd rfl (Or.inl rfl) (pe_c0 (ok_law_drawn_letters T) hr (by decide) rfl (pa_cons (pv 4) (pa_cons (pe_op (k_addP K) pe_int (pv 3)) (pa_cons (pe_callB (k_len K) rfl T.b_len (by decide +kernel) (pa_cons (pe_ix (k_ix K) (pv 1) pe_int (fun _ _ => rfl)) pa_nil)) pa_nil)))))
  (Evl.pss_cut (ps_if (pt_cmpR (k_eqP K hr.units) (pe_op op_modP (pv 3) pe_int) pe_int (nomark _))
  (pss_one (ps_setLc (i := 5) (own := [("_law_one", 12)]) rfl sc_law.nd rfl rfl (sw_true rfl rfl rfl (by decide +kernel)) (k_iL K (pe_ix (k_ix K) (pv 1) pe_int (fun _ _ => rfl))) (blkOk_by (N := ["_law_script", "_law_tongue_here", "_law_kept", "_law_k", "_law_cell_here", "_law_letters_here", "_law_handed", "_law_found", "_law_book", "_law_odd", "_law_thing", "_law_part_here", "_law_one", "_law_j"]) (sc := defScope s_law) (by decide +kernel)) (fun _ _ _ _ _ => (pg_name (i := 12) sc_law.nd rfl (Or.inl rfl))) (fun _ _ _ _ _ => pts_nil) (fun _ _ _ _ _ => (pe_ix (k_ix K) (pv 12) pe_int (fun _ _ => rfl))))) pss_nil)
  (pss_cons (ps_set (i := 6) sc_law.nd rfl (Or.inl rfl) (pe_callTy (k_list K) rfl T.b_list (by decide +kernel) (pa_cons (pv 5) pa_nil)))
  (pss_cons (ps_set (i := 7) sc_law.nd rfl (Or.inl rfl) (pe_ce (ok_turned_tongue T) hr (by decide) rfl takes0 (pa_cons (pv 1) (pa_cons (pv 6) pa_nil))))
  (pss_cons (ps_if (PW.pt (pw_or (pt_not (pt_val (pe_callB (k_isi K) rfl T.b_isinstance (by decide +kernel) (pa_cons (pv 7) (pa_cons (pe_bltn (v := .ty "tuple") rfl T.b_tuple (by decide +kernel) rfl) pa_nil))))) (pw_or1 (pt_cmpR (k_neP K hr.units) (pv 7) (pe_c0 (ok_law_turned T) hr (by decide) rfl (pa_cons (pv 1) (pa_cons (pv 5) pa_nil))) (nomark _)))))
  (pss_one (ps_ret pe_bl)) pss_nil)
  (pss_cons (ps_expr (k_bm0 K PySem.F.plainAttrs_list PySem.F.slot_list_clear PySem.F.type_list_clear mt_clear (pe_ix (k_ix K) (pv 7) pe_int (fun _ _ => rfl))))
  (pss_cons (ps_expr (k_bm K PySem.F.plainAttrs_list PySem.F.slot_list_append PySem.F.type_list_append mt_append (pe_ix (k_ix K) (pv 7) pe_int (fun _ _ => rfl)) (pa_cons pe_str pa_nil)))
  (pss_cons (ps_expr (k_bm K PySem.F.plainAttrs_list PySem.F.slot_list_append PySem.F.type_list_append mt_append (pe_ix (k_ix K) (pv 7) pe_int (fun _ _ => rfl)) (pa_cons pe_str pa_nil)))
  (pss_cons (ps_if (pt_cmpR (k_neP K hr.units) (pe_ce (ok_turned_tongue T) hr (by decide) rfl takes0 (pa_cons (pv 1) (pa_cons (pv 6) pa_nil))) (pe_c0 (ok_law_turned T) hr (by decide) rfl (pa_cons (pv 1) (pa_cons (pv 5) pa_nil))) (nomark _))
  (pss_one (ps_ret pe_bl)) pss_nil)
  (pss_cons (ps_setLc (i := 8) (own := [("_law_j", 13)]) rfl sc_law.nd rfl rfl (sw_true rfl rfl rfl (by decide +kernel)) (pi_range1 rfl T.b_range (pa_cons (pe_op op_modP (pv 3) pe_int) pa_nil)) (blkOk_by (N := ["_law_script", "_law_tongue_here", "_law_kept", "_law_k", "_law_cell_here", "_law_letters_here", "_law_handed", "_law_found", "_law_book", "_law_odd", "_law_thing", "_law_part_here", "_law_one", "_law_j"]) (sc := defScope s_law) (by decide +kernel)) (fun _ _ _ _ _ => (pg_name (i := 13) sc_law.nd rfl (Or.inl rfl))) (fun _ _ _ _ _ => pts_nil) (fun _ _ _ _ _ => (pe_c0 (ok_law_drawn_text T) hr (by decide) rfl (pa_cons (pv 1) (pa_cons (pv 4) (pa_cons (pe_op (k_addP K) (pe_op (k_addP K) pe_int (pv 3)) (pv 13)) pa_nil))))))
  (pss_cons (ps_if (pt_not (pt_val (pe_c0 (ok_law_book_right T) hr (by decide) rfl (pa_cons (pv 1) (pa_cons (pv 5) (pa_cons (pv 8) (pa_cons (pe_c0 (ok_law_drawn_text T) hr (by decide) rfl (pa_cons (pv 1) (pa_cons (pv 4) (pa_cons (pe_op (k_addP K) pe_int (pv 3)) pa_nil)))) pa_nil)))))))
  (pss_one (ps_ret pe_bl)) pss_nil)
  (pss_cons (ps_if (PW.pt (pw_or (pt_cmpR (k_neP K hr.units) (pv 1) (pv 2) (nomark _)) (pw_or1 (pt_cmpR (k_neP K hr.units) (pv 6) (pv 5) (nomark _)))))
  (pss_one (ps_ret pe_bl)) pss_nil)
  (pss_cons (ps_set (i := 9) sc_law.nd rfl (Or.inl rfl) (pe_c0 (ok_law_no_letters T) hr (by decide) rfl (pa_cons (pv 5) (pa_cons (pv 4) (pa_cons (pe_op (k_addP K) pe_int (pv 3)) pa_nil)))))
  (pss_cons (ps_if (pt_not (pt_val (pe_c0 (ok_law_refused T) hr (by decide) rfl (pa_cons (pv 1) (pa_cons (pv 9) (pa_cons (pe_op op_modP (pv 3) pe_int) pa_nil))))))
  (pss_one (ps_ret pe_bl)) pss_nil)
  (pss_cons (ps_asg (pe_ix (k_ix K) (pe_c0 (ok_law_no_tongues T) hr (by decide) rfl (pa_cons (pv 1) pa_nil)) (pe_ix (k_ix K) (pe_c0 (ok_law_draws T) hr (by decide) rfl (pa_cons (pv 4) (pa_cons (pe_op (k_addP K) pe_int (pv 3)) (pa_cons (pe_lst (pa_cons pe_int pa_nil)) pa_nil)))) pe_int (fun _ _ => rfl)) (fun _ _ => rfl)) (k_tup (n := 2) K rfl (pgs_cons (pg_name (i := 10) sc_law.nd rfl (Or.inl rfl)) (pgs_cons (pg_name (i := 11) sc_law.nd rfl (Or.inl rfl)) pgs_nil))))
  (pss_one (ps_if (pt_cmpR (k_neP K hr.units) (pe_c0 (ok_law_part T) hr (by decide) rfl (pa_cons (pv 10) (pa_cons (pe_ix (k_ix K) (pe_lst (pa_cons (pv 5) (pa_cons (pv 9) pa_nil))) (pe_op op_modP (pe_op op_div (pv 3) pe_int) pe_int) (fun _ _ => rfl)) (pa_cons (pe_ix (k_ix K) (pe_ix (k_ix K) (pe_ix (k_ix K) (pv 1) pe_int (fun _ _ => rfl)) pe_int (fun _ _ => rfl)) pe_int (fun _ _ => rfl)) (pa_cons (pe_op op_modP (pv 3) pe_int) pa_nil))))) (pv 11) (nomark _))
  (pss_one (ps_ret pe_bl)) pss_nil))))))))))))))))))
  (pss_one (ps_ret pe_bl))))), ?_⟩)
  · obtain ⟨a, ns, rfl, _⟩ := h
    rfl
  · obtain ⟨a, ns, rfl, ha, hl, q⟩ := h
    rw [st_law]
    walk_at "st"
    walk_at "rd"
    refine ⟨a, ns, 6, 8, rfl, ha, by decide, by decide, by decide, by decide, fun t TT a1 a2 a3 xs H1 ht e1 hx => ?_⟩
    walk_at "rd"
    refine ⟨.ref TT, t, TT, a1, a2, a3, xs, rfl, hx, fun KT k1 k2 k3 H2 e2 hk => ?_⟩
    have ha2 : SqL K H2 a (ns.map V.int) := upL e2 (upL e1 ha)
    walk_at "rd"
    intro c1 H7 hc1 e7 f7
    walk_at "rd"
    intro c2 H8 hc2 e8 f8
    obtain ⟨cz, ec, hcs⟩ := cut_ints ns (some 8) (some 38)
    rw [ec] at f8
    walk_at "rd"
    intro c3 H9 hc3 e9 f9
    replace f9 : H9 c3 = some (.lst ((0 :: cz).map V.int)) := f9
    have X1 : TgAt H9 (.ref TT) t TT a1 a2 a3 xs := hx.up (e2.trans (e7.trans (e8.trans e9)))
    have X2 : TgAt H9 (.ref KT) t KT k1 k2 k3 xs := hk.up (e7.trans (e8.trans e9))
    clear f7 f8 e1 e2 e7 e8 e9 hc1 hc2 hc3 hx hk ha2
    have tl1 := ht.lay
    have hn1 := ht.n1
    have hn6 := ht.n2
    have X0 := X1
    obtain ⟨_, Xt, Xs, Xq, Xf, Xp, _, _, _, _⟩ := X0
    have hxl := Xq.length
    rw [List.length_map] at hxl
    have i0 : atI [V.ref a1, V.ref a2, V.ref a3, V.int (t.lo : Nat)] 0 = some (.ref a1) := rfl
    walk_at "rd"
    refine forW (walk_enum (xs := (0 :: cz).map V.int)) (fun i σ G => ∃ (z3 z4 z5 z6 z7 z8 z9 z10 z11 : Option V), σ = [some (.ref a), some (.ref TT), some (.ref KT), z3, z4, z5, z6, z7, z8, z9, z10, z11, none, none] ∧ Same H9 G) ⟨_, _, _, _, _, _, _, _, _, rfl, Same.refl _⟩ (fun i σ G _ ⟨_, _, _, _, _, _, _, _, _, _, e⟩ => by walk_at "lk") ?_ ?_
    · rintro i x σ G0 G1 hi ⟨z3, z4, z5, z6, z7, z8, z9, z10, z11, rfl, g0⟩ y
      obtain ⟨T1, x1, x2, rfl, hT, rfl, hx1, hx2⟩ := y
      have g1 : Same G0 (upd G0 T1 (.tup [x1, x2])) := Same.new hT
      have h1 : (upd G0 T1 (.tup [x1, x2])) T1 = some (.tup [x1, x2]) := upd_same
      revert g1 h1
      generalize upd G0 T1 (.tup [x1, x2]) = G1
      intro g1 h1
      obtain rfl : V.int (i : Nat) = x1 := Option.some.inj hx1
      have hi2 : i < 64 := by
        rw [List.length_map, List.length_cons] at hi
        omega
      obtain ⟨ck, rfl⟩ : ∃ ck : Int, x2 = V.int ck := by
        have hx2 : ((0 :: cz).map V.int)[i]? = some x2 := hx2
        rw [List.getElem?_map] at hx2
        cases e : (0 :: cz)[i]? with
        | none => rw [e] at hx2; cases hx2
        | some ck => rw [e] at hx2; exact ⟨ck, (Option.some.inj hx2).symm⟩
      have s1 : Same H9 G1 := g0.trans g1
      have Xt1 := s1 _ _ Xt
      have Xs1 := s1 _ _ Xs
      clear g0 hT hx1 hx2 g1
      walk_at "rd"
      refine ⟨ck, 20 + i, xs.length, by rw [Int.natCast_add]; rfl, by omega, by omega, fun cs0 lb G2 hc1 hc2 hc3 hlb s2 h2 => ?_⟩
      have s12 : Same H9 G2 := s1.trans s2
      clear s1 s2 h1 Xt1 Xs1
      walk_at "rd"
      refine r_cut (fun σ' H' => ∃ lb cs, σ' = [some (.ref a), some (.ref TT), some (.ref KT), some (.int i), some (.int ck), some (.ref lb), z6, z7, z8, z9, z10, z11, none, none] ∧ Same H9 H' ∧ H' lb = some (.lst (csV cs)) ∧ LtOk t cs) ?_ ?_
      · walk_at "rd"
        refine r_ite (fun hk => ?_) (fun hk => ?_)
        · have Xt2 := s12 _ _ Xt
          have Xs2 := s12 _ _ Xs
          walk_at "rd"
          refine lcW (walk_list (xs := xs)) (fun i acc _ => acc = ((t.sg.take i).map fun s => S [s.c]).map V.str) rfl (fun H' e' => sqL (e' _ _ Xs2)) (fun _ _ => rfl) ?_ ?_
          · rintro i x acc Dl K0 K1 hi hD g3 g4 hl3 rfl y
            obtain ⟨rfl, hx⟩ := y
            have hi2 : i < t.sg.length := by omega
            obtain rfl : xs[i] = x := Option.some.inj ((List.getElem?_eq_getElem hi).symm.trans hx)
            have gi : Dq H9 xs[i] (sgD t.sg[i]) := by
              have := Xq.get i hi (by rw [List.length_map]; exact hi2)
              rwa [List.getElem_map] at this
            obtain ⟨Ts, v2, v3, ex, hTs, d2, d3⟩ := sg_tup gi
            rw [ex]
            have hTs1 := g3 _ _ (s12 _ _ hTs)
            have j0 : atI [V.str (S [t.sg[i].c]), v2, v3] 0 = some (.str (S [t.sg[i].c])) := rfl
            walk_at "rd"
            refine lc_put (by omega) hD g3 g4 hl3 fun H5 _ _ => ?_
            rw [← List.take_append_getElem hi2, List.map_append, List.map_append]
            rfl
          · rintro acc D2 K2 hD2 g3 g4 rfl
            rw [hxl, List.take_length, lt_strs, ← csV_strs] at g4
            walk_at "rd"
            exact ⟨D2, ltT t, rfl, s12.trans g3, g4, lt_len t, ht.nd, lt_low ht⟩
        · walk_at "rd"
          exact ⟨lb, cs0, rfl, s12, h2, by omega, hc2, hc3⟩
      clear s12 h2 hc1 hc2 hc3 hlb
      clear cs0 lb
      rintro σ' G2 ⟨lb, cs, rfl, s2, h2, hlt⟩
      have hn := hlt.n
      have tl2 := TgL.tr ht hlt
      walk_at "rd"
      intro hh G3 hhh s3 h3
      have s23 : Same H9 G3 := s2.trans s3
      have Y1 := X1.up s23
      have Y2 := X2.up s23
      have h2' := s3 _ _ h2
      walk_at "rd"
      refine ⟨.ref TT, .ref hh, rfl, .inr ⟨t, TT, a1, a2, a3, xs, hh, cs, ht, Y1, rfl, h3, hlt, fun r rl fl pl rows G5 s5 hrl hfl hpl n1 n2 n3 Z1 => ?_⟩⟩
      have Zr := Z1.ht
      have h2v := s5 _ _ h2'
      walk_at "rd"
      refine ⟨.ref TT, lb, t, TT, a1, a2, a3, xs, cs, rfl, ht, Y1.up s5, h2v, hlt, fun r2 rl2 fl2 pl2 rows2 G6 s6 Z2 => ?_⟩
      walk_at "rd"
      refine r_neD (d := tgD (trT t cs)) (e := tgD (trT t cs)) ((Z1.up s6).dp tl2) (Z2.dp tl2) ?_ (tg_shaped tl2) (tg_shaped tl2)
      rw [tg_eqv tl2]
      have s56 : Same G3 G6 := s5.trans s6
      obtain ⟨_, Zt, Zs, Zq, Zf, Zp, _, _, _, _⟩ := Z1.up s6
      have Zt0 : atI [V.ref rl, V.ref fl, V.ref pl, V.int ((trT t cs).lo : Nat)] 0 = some (.ref rl) := rfl
      have Zt1 : atI [V.ref rl, V.ref fl, V.ref pl, V.int ((trT t cs).lo : Nat)] 1 = some (.ref fl) := rfl
      have Zt2 : atI [V.ref rl, V.ref fl, V.ref pl, V.int ((trT t cs).lo : Nat)] 2 = some (.ref pl) := rfl
      clear s6 Zr
      walk_at "rd"
      have r1 : r ≠ rl := fun e => by
        rw [e, Zs] at Zt
        cases Zt
      have r2' : r ≠ fl := fun e => by
        rw [e, Zf] at Zt
        cases Zt
      have r3' : r ≠ pl := fun e => by
        rw [e, Zp] at Zt
        cases Zt
      have w1 : (trT t cs).fi.length ≤ 100 := Z1.k1
      have w2 : (trT t cs).pa.length ≤ 100 := Z1.k2
      refine r_clear Zs (fun G7 b7 h7 => ?_)
      have Zt7 := b7 _ _ r1 Zt
      have Zf7 := b7 _ _ n1.symm Zf
      have Zp7 := b7 _ _ n2.symm Zp
      walk_at "rd"
      intro G8 b8 h8
      have Zt8 := b8 _ _ r2' Zt7
      have Zp8 := b8 _ _ n3.symm Zp7
      walk_at "rd"
      intro G9 b9 h9
      have g9 : Same G3 G9 := Same.but b9 hpl (Same.but b8 hfl (Same.but b7 hrl s56))
      have V1 := Y1.up g9
      have V2 := Y2.up g9
      have h3v := g9 _ _ h3
      have h2v := g9 _ _ h2'
      have sv : Same H9 G9 := s23.trans g9
      clear b7 b8 b9 h7 h8 h9 g9 Zt Zs Zq Zf Zp Zt7 Zf7 Zp7 Zt8 Zp8 s56 s5 Z1 Z2 Y1 Y2 h2' h3 s23 s3 s2 h2 hrl hfl hpl
      walk_at "rd"
      refine ⟨.ref TT, .ref hh, rfl, .inr ⟨t, TT, a1, a2, a3, xs, hh, cs, ht, V1, rfl, h3v, hlt, fun r3 rl3 fl3 pl3 rows3 K5 s5 _ _ _ _ _ _ Z1 => ?_⟩⟩
      have h2w := s5 _ _ h2v
      walk_at "rd"
      refine ⟨.ref TT, lb, t, TT, a1, a2, a3, xs, cs, rfl, ht, V1.up s5, h2w, hlt, fun r4 rl4 fl4 pl4 rows4 K6 s6 Z2 => ?_⟩
      walk_at "rd"
      refine r_neD (d := tgD (trT t cs)) (e := tgD (trT t cs)) ((Z1.up s6).dp tl2) (Z2.dp tl2) ?_ (tg_shaped tl2) (tg_shaped tl2)
      rw [tg_eqv tl2]
      have s56 : Same G9 K6 := s5.trans s6
      have h2x := s56 _ _ h2v
      have h3x := s56 _ _ h3v
      have W1 := V1.up s56
      have W2 := V2.up s56
      have sw : Same H9 K6 := sv.trans s56
      clear s5 s6 s56 sv h2v h3v h2w Z1 Z2 V1 V2
      walk_at "rd"
      refine lcW walk_r0 (fun j acc _ => ∃ zs : List Str, acc = zs.map V.str ∧ zs.length = j ∧ ∀ z ∈ zs, Chars t z) rfl (fun _ _ => trivial) (fun _ _ => ⟨[], rfl, rfl, fun _ h => absurd h List.not_mem_nil⟩) ?_ ?_
      · rintro j x acc Dl _ K0 hj hD g3 g4 hl3 ⟨zs, rfl, hzs, hzc⟩ ⟨rfl, rfl⟩
        walk_at "rd"
        refine ⟨.ref TT, t, TT, a1, a2, a3, xs, ck, 40 + i + j, by rw [Int.natCast_add, Int.natCast_add]; rfl, W1.up g3, by omega, hn6, by omega, fun z K1 hz e => ?_⟩
        refine lc_put (by omega) hD (g3.trans e) (e _ _ g4) hl3 fun H5 _ _ => ⟨zs ++ [z], by rw [List.map_append]; rfl, by rw [List.length_append, hzs]; rfl, fun u hu => ?_⟩
        rcases List.mem_append.mp hu with hu | hu
        · exact hzc u hu
        · rw [List.mem_singleton.mp hu]
          exact hz
      rintro acc bl K7 hbl s7 h7 ⟨zs, rfl, hzs, hzc⟩
      have W3 := W1.up s7
      have W4 := W2.up s7
      have h2y := s7 _ _ h2x
      have h3y := s7 _ _ h3x
      have sx : Same H9 K7 := sw.trans s7
      clear sw s7 W1 W2 h2x h3x
      walk_at "rd"
      refine ⟨.ref TT, t, TT, a1, a2, a3, xs, ck, 60 + i, by rw [Int.natCast_add]; rfl, W3, by omega, hn6, by omega, fun z K8 hz e8 => ?_⟩
      walk_at "rd"
      refine ⟨.ref TT, lb, bl, z, t, TT, a1, a2, a3, xs, cs, zs, rfl, ht, W3.up e8, e8 _ _ h2y, hlt, e8 _ _ h7, hzc, by omega, hz, fun K9 e9 => ?_⟩
      have e89 := e8.trans e9
      have W5 := W3.up e89
      have W6 := W4.up e89
      have h2z := e89 _ _ h2y
      have h3z := e89 _ _ h3y
      have sy : Same H9 K9 := sx.trans e89
      clear e89 e8 e9 sx W3 W4 h2y h3y h7
      walk_at "rd"
      refine r_neD (d := tgD t) (e := tgD t) (W5.dp tl1) (W6.dp tl1) ?_ (tg_shaped tl1) (tg_shaped tl1)
      rw [tg_eqv tl1]
      walk_at "rd"
      have h2s := h2z
      have h3s := h3z
      rw [csV_strs] at h2s h3s
      refine r_neD (strs_dp h3s) (strs_dp h2s) ?_ (strs_shaped (cs_strOk hlt.w)) (strs_shaped (cs_strOk hlt.w))
      rw [strs_eqv (cs_strOk hlt.w)]
      walk_at "rd"
      refine ⟨lb, cs, ck, 80 + i, by rw [Int.natCast_add]; rfl, h2z, hlt.d, hlt.w, by omega, by omega, by omega, fun ov od M1 e1 hod hol => ?_⟩
      rw [hn] at hol
      walk_at "rd"
      refine ⟨.ref TT, ov, ((i : Nat) : Int) % 3, t, TT, a1, a2, a3, xs, od, rfl, ht, W5.up e1, hod, hol, fun M2 e2 => ?_⟩
      walk_at "rd"
      refine ⟨.ref TT, t, TT, a1, a2, a3, xs, rfl, ht, W5.up (e1.trans e2), fun l3 ps M3 e3 f3 hps hpp => ?_⟩
      walk_at "rd"
      intro l4 M4 n4 e4 f4
      walk_at "rd"
      refine ⟨ck, 90 + i, l4, [10], by rw [Int.natCast_add]; rfl, by omega, by decide, f4, by decide, fun rs o1 M5 hd ho1 e5 f5 => ?_⟩
      obtain ⟨hr1, hr2⟩ := hd
      have hr1' : rs.length = 1 := hr1
      have b0 : rs[0] < 10 := hr2 0 (by omega) (by decide)
      have a0 : atI (vsN rs) 0 = some (.int (rs[0] : Nat)) := at_vs (n := 0) rfl (by omega)
      clear hr2
      obtain ⟨pv, hpv, hpm⟩ := at_in (xs := ps) (z := ((rs[0] : Nat) : Int)) (by omega) (by omega)
      obtain ⟨T3, tv, nv, td, rfl, hT3, hdq, hwe⟩ := hpp pv hpm
      have f3' := e5 _ _ (e4 _ _ f3)
      have hT3' := e5 _ _ (e4 _ _ hT3)
      walk_at "rd"
      intro l6 M6 n6 e6 f6
      obtain ⟨sv, hsv, _⟩ := at_in (xs := [V.ref lb, ov]) (z := ((i : Nat) : Int) / 3 % 2) (by omega) (by simp; omega)
      have ss : Same H9 M6 := sy.trans (e1.trans (e2.trans (e3.trans (e4.trans (e5.trans e6)))))
      have Xt6 := ss _ _ Xt
      have Xs6 := ss _ _ Xs
      obtain ⟨T0, v2, v3, ex0, hT0, _, _⟩ := sg_tup (by
        have := Xq.get 0 (by omega) (by rw [List.length_map]; omega)
        rwa [List.getElem_map] at this)
      have hx0 : atI xs 0 = some (.ref T0) := atI_nat (j := 0) (by rw [List.getElem?_eq_getElem (by omega), ex0])
      have hT06 := ss _ _ hT0
      have hs0 : atI [V.str (S [(t.sg[0]'(by omega)).c]), v2, v3] 0 = some (.str (S [(t.sg[0]'(by omega)).c])) := rfl
      clear ss
      walk_at "rd"
      refine ⟨tv, sv, _, _, td, nv, rfl, hdq.up (e4.trans (e5.trans e6)), hwe, fun M7 e7 => ?_⟩
      walk_at "rd"
      have hsc : scal nv nv = true := by
        rcases part_scal hwe with rfl | ⟨n, rfl⟩ <;> rfl
      refine r_ne ?_ hsc
      walk_at "rd"
      refine r_nite (fun h => absurd rfl h) (fun _ => ?_)
      walk_at "rd"
      exact ⟨_, _, _, _, _, _, _, _, _, rfl, sy.trans (e1.trans (e2.trans (e3.trans (e4.trans (e5.trans (e6.trans e7))))))⟩
    · rintro σ G ⟨z3, z4, z5, z6, z7, z8, z9, z10, z11, rfl, g0⟩
      walk_at "rd"
      exact q _
end
end My

namespace My
open PySem PySem.Spec PyProof.Rows L2 Z M SX TL
theorem facts {K : PySem.W.Frag} {h : Heap} {mg : Str → Option Value} (X : K.In h) (G : h.Ns mainGlobals mg) (c : Z.SaysE fa fn exb K) : Txt K mg where
  ex := Z.exsB_ok X G c.more
  i_NoTongue := by
    obtain ⟨fd, F⟩ := c.d.def_ 38 (d := di_NoTongue) rfl
    exact ⟨fd, F⟩
  i_NoWants := by
    obtain ⟨fd, F⟩ := c.d.def_ 39 (d := di_NoWants) rfl
    exact ⟨fd, F⟩
  i_NoThing := by
    obtain ⟨fd, F⟩ := c.d.def_ 40 (d := di_NoThing) rfl
    exact ⟨fd, F⟩
  i_BadSign := by
    obtain ⟨fd, F⟩ := c.d.def_ 41 (d := di_BadSign) rfl
    exact ⟨fd, F⟩
  i_NoText := by
    obtain ⟨fd, F⟩ := c.d.def_ 42 (d := di_NoText) rfl
    exact ⟨fd, F⟩
  d_is_whole := by
    obtain ⟨fd, F⟩ := c.d.def_ 0 (d := dd_is_whole) rfl
    exact ⟨_, fd, F, He.glo_ok X G (c.d.fact 0 (f := .glo "is_whole") rfl)⟩
  d_divisor := by
    obtain ⟨fd, F⟩ := c.d.def_ 1 (d := dd_divisor) rfl
    exact ⟨_, fd, F, He.glo_ok X G (c.d.fact 1 (f := .glo "divisor") rfl)⟩
  d_is_fraction := by
    obtain ⟨fd, F⟩ := c.d.def_ 2 (d := dd_is_fraction) rfl
    exact ⟨_, fd, F, He.glo_ok X G (c.d.fact 2 (f := .glo "is_fraction") rfl)⟩
  d_is_price := by
    obtain ⟨fd, F⟩ := c.d.def_ 3 (d := dd_is_price) rfl
    exact ⟨_, fd, F, He.glo_ok X G (c.d.fact 3 (f := .glo "is_price") rfl)⟩
  d_is_letter_tongues := by
    obtain ⟨fd, F⟩ := c.d.def_ 4 (d := dd_is_letter_tongues) rfl
    exact ⟨_, fd, F, He.glo_ok X G (c.d.fact 4 (f := .glo "is_letter_tongues") rfl)⟩
  d_is_sign := by
    obtain ⟨fd, F⟩ := c.d.def_ 5 (d := dd_is_sign) rfl
    exact ⟨_, fd, F, He.glo_ok X G (c.d.fact 5 (f := .glo "is_sign") rfl)⟩
  d_are_signs := by
    obtain ⟨fd, F⟩ := c.d.def_ 6 (d := dd_are_signs) rfl
    exact ⟨_, fd, F, He.glo_ok X G (c.d.fact 6 (f := .glo "are_signs") rfl)⟩
  d_are_unlike_texts := by
    obtain ⟨fd, F⟩ := c.d.def_ 7 (d := dd_are_unlike_texts) rfl
    exact ⟨_, fd, F, He.glo_ok X G (c.d.fact 7 (f := .glo "are_unlike_texts") rfl)⟩
  d_look_at_tongue := by
    obtain ⟨fd, F⟩ := c.d.def_ 8 (d := dd_look_at_tongue) rfl
    exact ⟨_, fd, F, He.glo_ok X G (c.d.fact 8 (f := .glo "look_at_tongue") rfl)⟩
  d_is_letter := by
    obtain ⟨fd, F⟩ := c.d.def_ 9 (d := dd_is_letter) rfl
    exact ⟨_, fd, F, He.glo_ok X G (c.d.fact 9 (f := .glo "is_letter") rfl)⟩
  d_is_letter_turning := by
    obtain ⟨fd, F⟩ := c.d.def_ 10 (d := dd_is_letter_turning) rfl
    exact ⟨_, fd, F, He.glo_ok X G (c.d.fact 10 (f := .glo "is_letter_turning") rfl)⟩
  d_look_at_letters := by
    obtain ⟨fd, F⟩ := c.d.def_ 11 (d := dd_look_at_letters) rfl
    exact ⟨_, fd, F, He.glo_ok X G (c.d.fact 11 (f := .glo "look_at_letters") rfl)⟩
  d_called := by
    obtain ⟨fd, F⟩ := c.d.def_ 12 (d := dd_called) rfl
    exact ⟨_, fd, F, He.glo_ok X G (c.d.fact 12 (f := .glo "called") rfl)⟩
  d_turned_tongue := by
    obtain ⟨fd, F⟩ := c.d.def_ 13 (d := dd_turned_tongue) rfl
    exact ⟨_, fd, F, He.glo_ok X G (c.d.fact 13 (f := .glo "turned_tongue") rfl)⟩
  d_turned_text := by
    obtain ⟨fd, F⟩ := c.d.def_ 14 (d := dd_turned_text) rfl
    exact ⟨_, fd, F, He.glo_ok X G (c.d.fact 14 (f := .glo "turned_text") rfl)⟩
  d_turned_book := by
    obtain ⟨fd, F⟩ := c.d.def_ 15 (d := dd_turned_book) rfl
    exact ⟨_, fd, F, He.glo_ok X G (c.d.fact 15 (f := .glo "turned_book") rfl)⟩
  d_law_cell := by
    obtain ⟨fd, F⟩ := c.d.def_ 16 (d := dd_law_cell) rfl
    exact ⟨_, fd, F, He.glo_ok X G (c.d.fact 16 (f := .glo "_law_cell") rfl)⟩
  d_law_draws := by
    obtain ⟨fd, F⟩ := c.d.def_ 17 (d := dd_law_draws) rfl
    exact ⟨_, fd, F, He.glo_ok X G (c.d.fact 17 (f := .glo "_law_draws") rfl)⟩
  d_law_low := by
    obtain ⟨fd, F⟩ := c.d.def_ 18 (d := dd_law_low) rfl
    exact ⟨_, fd, F, He.glo_ok X G (c.d.fact 18 (f := .glo "_law_low") rfl)⟩
  d_law_letters := by
    obtain ⟨fd, F⟩ := c.d.def_ 19 (d := dd_law_letters) rfl
    exact ⟨_, fd, F, He.glo_ok X G (c.d.fact 19 (f := .glo "_law_letters") rfl)⟩
  d_law_sign := by
    obtain ⟨fd, F⟩ := c.d.def_ 20 (d := dd_law_sign) rfl
    exact ⟨_, fd, F, He.glo_ok X G (c.d.fact 20 (f := .glo "_law_sign") rfl)⟩
  d_law_tongue := by
    obtain ⟨fd, F⟩ := c.d.def_ 21 (d := dd_law_tongue) rfl
    exact ⟨_, fd, F, He.glo_ok X G (c.d.fact 21 (f := .glo "_law_tongue") rfl)⟩
  d_law_comes := by
    obtain ⟨fd, F⟩ := c.d.def_ 22 (d := dd_law_comes) rfl
    exact ⟨_, fd, F, He.glo_ok X G (c.d.fact 22 (f := .glo "_law_comes") rfl)⟩
  d_law_longer := by
    obtain ⟨fd, F⟩ := c.d.def_ 23 (d := dd_law_longer) rfl
    exact ⟨_, fd, F, He.glo_ok X G (c.d.fact 23 (f := .glo "_law_longer") rfl)⟩
  d_law_texts := by
    obtain ⟨fd, F⟩ := c.d.def_ 24 (d := dd_law_texts) rfl
    exact ⟨_, fd, F, He.glo_ok X G (c.d.fact 24 (f := .glo "_law_texts") rfl)⟩
  d_law_words := by
    obtain ⟨fd, F⟩ := c.d.def_ 25 (d := dd_law_words) rfl
    exact ⟨_, fd, F, He.glo_ok X G (c.d.fact 25 (f := .glo "_law_words") rfl)⟩
  d_law_is_no_turn := by
    obtain ⟨fd, F⟩ := c.d.def_ 26 (d := dd_law_is_no_turn) rfl
    exact ⟨_, fd, F, He.glo_ok X G (c.d.fact 26 (f := .glo "_law_is_no_turn") rfl)⟩
  d_law_copy := by
    obtain ⟨fd, F⟩ := c.d.def_ 27 (d := dd_law_copy) rfl
    exact ⟨_, fd, F, He.glo_ok X G (c.d.fact 27 (f := .glo "_law_copy") rfl)⟩
  d_law_called := by
    obtain ⟨fd, F⟩ := c.d.def_ 28 (d := dd_law_called) rfl
    exact ⟨_, fd, F, He.glo_ok X G (c.d.fact 28 (f := .glo "_law_called") rfl)⟩
  d_law_drawn_text := by
    obtain ⟨fd, F⟩ := c.d.def_ 29 (d := dd_law_drawn_text) rfl
    exact ⟨_, fd, F, He.glo_ok X G (c.d.fact 29 (f := .glo "_law_drawn_text") rfl)⟩
  d_law_drawn_letters := by
    obtain ⟨fd, F⟩ := c.d.def_ 30 (d := dd_law_drawn_letters) rfl
    exact ⟨_, fd, F, He.glo_ok X G (c.d.fact 30 (f := .glo "_law_drawn_letters") rfl)⟩
  d_law_no_letters := by
    obtain ⟨fd, F⟩ := c.d.def_ 31 (d := dd_law_no_letters) rfl
    exact ⟨_, fd, F, He.glo_ok X G (c.d.fact 31 (f := .glo "_law_no_letters") rfl)⟩
  d_law_refused := by
    obtain ⟨fd, F⟩ := c.d.def_ 32 (d := dd_law_refused) rfl
    exact ⟨_, fd, F, He.glo_ok X G (c.d.fact 32 (f := .glo "_law_refused") rfl)⟩
  d_law_no_tongues := by
    obtain ⟨fd, F⟩ := c.d.def_ 33 (d := dd_law_no_tongues) rfl
    exact ⟨_, fd, F, He.glo_ok X G (c.d.fact 33 (f := .glo "_law_no_tongues") rfl)⟩
  d_law_part := by
    obtain ⟨fd, F⟩ := c.d.def_ 34 (d := dd_law_part) rfl
    exact ⟨_, fd, F, He.glo_ok X G (c.d.fact 34 (f := .glo "_law_part") rfl)⟩
  d_law_turned := by
    obtain ⟨fd, F⟩ := c.d.def_ 35 (d := dd_law_turned) rfl
    exact ⟨_, fd, F, He.glo_ok X G (c.d.fact 35 (f := .glo "_law_turned") rfl)⟩
  d_law_book_right := by
    obtain ⟨fd, F⟩ := c.d.def_ 36 (d := dd_law_book_right) rfl
    exact ⟨_, fd, F, He.glo_ok X G (c.d.fact 36 (f := .glo "_law_book_right") rfl)⟩
  d_law := by
    obtain ⟨fd, F⟩ := c.d.def_ 37 (d := dd_law) rfl
    exact ⟨_, fd, F, He.glo_ok X G (c.d.fact 37 (f := .glo "law") rfl)⟩
  b_ValueError := He.free_ok X G (c.d.fact 38 (f := .free "ValueError") rfl)
  b_abs := He.free_ok X G (c.d.fact 39 (f := .free "abs") rfl)
  b_all := He.free_ok X G (c.d.fact 40 (f := .free "all") rfl)
  b_bool := He.free_ok X G (c.d.fact 41 (f := .free "bool") rfl)
  b_dict := He.free_ok X G (c.d.fact 42 (f := .free "dict") rfl)
  b_enumerate := He.free_ok X G (c.d.fact 43 (f := .free "enumerate") rfl)
  b_int := He.free_ok X G (c.d.fact 44 (f := .free "int") rfl)
  b_isinstance := He.free_ok X G (c.d.fact 45 (f := .free "isinstance") rfl)
  b_len := He.free_ok X G (c.d.fact 46 (f := .free "len") rfl)
  b_list := He.free_ok X G (c.d.fact 47 (f := .free "list") rfl)
  b_range := He.free_ok X G (c.d.fact 48 (f := .free "range") rfl)
  b_set := He.free_ok X G (c.d.fact 49 (f := .free "set") rfl)
  b_str := He.free_ok X G (c.d.fact 50 (f := .free "str") rfl)
  b_tuple := He.free_ok X G (c.d.fact 51 (f := .free "tuple") rfl)
  b_zip := He.free_ok X G (c.d.fact 52 (f := .free "zip") rfl)
  c_LETTERS_tongues := by
    obtain ⟨t, e⟩ := He.str_ok X G (c.d.fact 53 (f := .str "LETTERS_tongues" "abcdefghijklmnopqrstuvwxyz") rfl)
    exact ⟨_, e, t, rfl⟩
  c_FEWEST_SIGNS := by
    obtain ⟨t, e⟩ := He.int_ok X G (c.d.fact 54 (f := .int "FEWEST_SIGNS" 2) rfl)
    exact ⟨_, e, t, rfl⟩
  c_MOST_SIGNS := by
    obtain ⟨t, e⟩ := He.int_ok X G (c.d.fact 55 (f := .int "MOST_SIGNS" 6) rfl)
    exact ⟨_, e, t, rfl⟩
  c_LONGEST := by
    obtain ⟨t, e⟩ := He.int_ok X G (c.d.fact 56 (f := .int "LONGEST" 8) rfl)
    exact ⟨_, e, t, rfl⟩
  c_LETTERS_turning := by
    obtain ⟨t, e⟩ := He.str_ok X G (c.d.fact 57 (f := .str "LETTERS_turning" "abcdefghijklmnopqrstuvwxyz") rfl)
    exact ⟨_, e, t, rfl⟩
  k_DearError := He.glo_ok X G (c.d.fact 58 (f := .glo "DearError") rfl)
  k_NoNumber := He.glo_ok X G (c.d.fact 59 (f := .glo "NoNumber") rfl)
  k_NoBook := He.glo_ok X G (c.d.fact 60 (f := .glo "NoBook") rfl)
  k_NoTree := He.glo_ok X G (c.d.fact 61 (f := .glo "NoTree") rfl)
  k_TooMany := He.glo_ok X G (c.d.fact 62 (f := .glo "TooMany") rfl)
  k_NoCount := He.glo_ok X G (c.d.fact 63 (f := .glo "NoCount") rfl)
  k_NoUndo := He.glo_ok X G (c.d.fact 64 (f := .glo "NoUndo") rfl)
  k_NoTurn := He.glo_ok X G (c.d.fact 65 (f := .glo "NoTurn") rfl)
  k_NoRow := He.glo_ok X G (c.d.fact 66 (f := .glo "NoRow") rfl)
  k_Unknown := He.glo_ok X G (c.d.fact 67 (f := .glo "Unknown") rfl)
  k_NoTongue := He.glo_ok X G (c.d.fact 68 (f := .glo "NoTongue") rfl)
  k_NoWants := He.glo_ok X G (c.d.fact 69 (f := .glo "NoWants") rfl)
  k_NoThing := He.glo_ok X G (c.d.fact 70 (f := .glo "NoThing") rfl)
  k_BadSign := He.glo_ok X G (c.d.fact 71 (f := .glo "BadSign") rfl)
  k_NoText := He.glo_ok X G (c.d.fact 72 (f := .glo "NoText") rfl)
theorem law_starts {K : PySem.W.Frag} : ∀ (H : Hp) (a : Addr) (ns : List Int), ns.length ≤ 63 → Only H → SqL K H a (ns.map V.int) → sp_law K [.ref a] H (fun v _ => v = .bl true) fun _ _ _ => False := fun H a ns hl _ hS => ⟨a, ns, rfl, hS, hl, fun _ => rfl⟩
end My
open PySem PySem.W PySem.Calls PyProof.Rows
set_option maxHeartbeats 0 in
theorem PySem.Challenge.cw_dearsigns_k57_letters_holds : PySem.Challenge.rw_dearsigns_k57_letters.Holds := by
  w_on; o_law
  refine HandSHeadRun.head_any (r := OpenLaw.row PySem.Challenge.rw_dearsigns_k57_letters) (q := view (OpenLaw.row PySem.Challenge.rw_dearsigns_k57_letters).prog [63]) (H := My.hk) (ob := My.ob) (M := 10000) (loose := My.loose) (d := HandSHeadRun.topDef (OpenLaw.row PySem.Challenge.rw_dearsigns_k57_letters).prog 63) (kwd := []) My.ob_eq
    (by kernel_rfl) (fun s => by kernel_rfl) My.run (by kernel_rfl) (by kernel_rfl) (by kernel_rfl) (by rfl) (by first | assumption | decide +kernel) (by decide +kernel) ⟨rfl, rfl, rfl, rfl, rfl, by decide +kernel⟩ ?hw ?hc
  case hw => w_witness2
  case hc =>
    refine L2.walk_ofE (l := PySem.Challenge.rw_dearsigns_k57_letters) (n := 63) (k := 9) (x := "_law_script") (CX := L2.CX0) rfl (by decide) (by kernel_rfl) ⟨rfl, by decide, by decide⟩ ?F (fun _ _ _ _ z => z)
    intro w mg fa h Y G hmg0
    obtain ⟨K, KX, c⟩ := Y
    have hmg : mg ("law" : PySem.Str) = some (.ref fa) := by
      have e : (HandSHeadRun.topDef (OpenLaw.row PySem.Challenge.rw_dearsigns_k57_letters).prog 63).name = ("law" : PySem.Str) := by kernel_rfl
      rw [← e]
      exact hmg0
    have T : My.Txt K mg := My.facts KX G c
    obtain ⟨fd, hb, hF⟩ := My.ok_law (P := (PySem.Challenge.rw_dearsigns_k57_letters).prog) (w := w) T hmg
    exact ⟨K, fd, My.sp_law K, KX, hb, My.law_starts, fun base _ _ => hF base⟩

